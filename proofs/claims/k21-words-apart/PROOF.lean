import PyProof.Rows.All
import Wide.All
import OpenK.AllK
import Wide.FinOn
import KE.GoesMore
import KE.GoesEnumKw
import HandS.ForMost
import HandS.Wide
import HandS.WideBits
import HandS.Steps
import HandS.Sort
import HandS.Codes
import HandS.NoneIn
import HandS.IsInst
import HandS.Deep
import HandS.Exc
import HandS.Defaults
import HandS.HeadEnd
import PySem.Challenge.RW_coremill_k21_words_apart
import KE.KBits
import KE.IntBitsLaws
import KE.KStateDown
import HandS.Head0
import HandS.Head1
import HandS.Head2
import HandS.HeadHook1
import HandS.HeadHook2
import HandS.HeadHook3
import HandS.HeadHook4
set_option Elab.async false
set_option linter.all false
set_option maxRecDepth 100000
set_option maxHeartbeats 2000000
/-! Rules of our own over the hand layer: attribute targets in a tuple, enumerate with a start by its name, a range held as a value. -/
namespace Cm
open PySem PySem.Spec PyProof.Rows L2

abbrev rAddStr : R2 := fun x y H Q => ∃ i j, x = .str i ∧ y = .str j ∧ i.length + j.length ≤ sizeLine ∧ Q (.str (i ++ j)) H
abbrev rInt1 : List V → Hp → VK → Prop := fun xs H Q => (∃ i, xs = [.int i] ∧ Q (.int i) H) ∨ ∃ k, xs = [.bl k] ∧ Q (.int (if k then 1 else 0)) H
abbrev rIntStr : List V → Hp → VK → Prop := fun xs H Q => ∃ a n, xs = [.str a] ∧ PySem.intText? a = some n ∧ a.length ≤ 640 ∧ Q (.int n) H
abbrev rAbs : List V → Hp → VK → Prop := fun xs H Q => ∃ i, xs = [.int i] ∧ Q (.int (if i < 0 then -i else i)) H
abbrev rStrInt : List V → Hp → VK → Prop := fun xs H Q => ∃ i, xs = [.int i] ∧ i.natAbs.log2 < 1920 ∧ Q (.str (toString i)) H
abbrev rLenStr : List V → Hp → VK → Prop := fun xs H Q => ∃ z, xs = [.str z] ∧ z.length ≤ sizeLine ∧ Q (.int z.length) H
abbrev rLenSeq (K : PySem.W.Frag) : List V → Hp → VK → Prop := fun xs H Q => ∃ p ys, xs = [.ref p] ∧ (SqL K H p ys ∨ SqT K H p ys) ∧ Q (.int ys.length) H
abbrev rListOf (K : PySem.W.Frag) : List V → Hp → VK → Prop := fun xs H Q => ∃ p ys, xs = [.ref p] ∧ (SqL K H p ys ∨ SqT K H p ys) ∧ ∀ l, H l = none → Q (.ref l) (upd H l (.lst ys))
abbrev rTupOf (K : PySem.W.Frag) : List V → Hp → VK → Prop := fun xs H Q => ∃ p ys, xs = [.ref p] ∧ ((SqL K H p ys ∧ ∀ l, H l = none → Q (.ref l) (upd H l (.tup ys))) ∨ (SqT K H p ys ∧ Q (.ref p) H))
abbrev rSplit : V → List V → Hp → VK → Prop := fun x xs H Q => ∃ a b, x = .str a ∧ xs = [.str b] ∧ (b.length == 0) = false ∧ a.length + 2 ≤ sizeLine ∧ rNewStrs (Txt.split a b) H Q
abbrev tSplit (to te : TE) : TE := tM1 rSplit to te
abbrev rJoin (K : PySem.W.Frag) : V → List V → Hp → VK → Prop := fun x xs H Q => ∃ a p, ∃ ys : List Str, x = .str a ∧ xs = [.ref p] ∧ (SqL K H p (ys.map V.str) ∨ SqT K H p (ys.map V.str)) ∧
      (ys.map (·.length)).sum + ys.length * a.length ≤ 16777216 ∧ Q (.str (Txt.join a ys)) H
abbrev tJoin (K : PySem.W.Frag) (to te : TE) : TE := tM1 (rJoin K) to te

/-! ### (o.f, ..) = a tuple: an attribute as a target -/
def gFld (K : PySem.W.Frag) (ta : TE) (f : Str) : TG := fun v σ H Q => ta σ H fun x H1 => ∃ a C dx fs, x = .ref a ∧ H1 a = some (.ins C dx fs) ∧ Cls K C ∧ NoAttr K C f ∧ fs.length < 1000 ∧ Q σ (upd H1 a (.ins C dx (putF f v fs)))
theorem pg_fld {X : Cx} {o : Expr} {f : Str} {ta : TE} {pos : Pos} (ho : PE X o ta) : PG X (.Attribute o f pos) (gFld X.K ta f) := by
  refine ⟨fun pins s σ H v u Q I r h => ?_⟩
  rw [assign_Attribute]
  refine wpAny_bind (wpAny_holding (thn (ho.run pins s σ H _ I h) fun ov s1 ⟨x, H1, I1, r1, q1⟩ => ?_))
  obtain ⟨a, C, dx, fs, ex, ea, c, n, l, q⟩ := q1
  subst ex
  obtain rfl : ov = Value.ref a := r1
  refine wpAny_bind (wpAny_standAt (wpAny_bind (wpAny_holding (setattr_ok I1 ea c n l r fun s3 I3 => ?_))))
  exact wpAny_release ⟨σ, _, I3, q⟩

/-! ### a range as a value -/
abbrev rRng1 : List V → Hp → VK → Prop := fun vs H Q => ∃ i, vs = [V.int i] ∧ ∀ p, H p = none → Q (.ref p) (upd H p (.rng 0 i))
theorem cr_range1 {X : Cx} : CallR X (.type "range") rRng1 := by
  intro pins s σ H vs us Q I r h
  obtain ⟨i, rfl, q⟩ := h
  obtain ⟨u1, rfl, ri⟩ := vals1 r
  obtain ⟨t, rfl⟩ := ri
  refine call_range_1 ⟨.ref s.heap.objs.size, upd H s.heap.objs.size (.rng 0 i), I.laid (t' := s.toks + 1 + 1) (fun b o e => Heap.get?_push_of_some _ e) (Nat.le_refl _) ?_, rfl, q _ (I.hok.fresh (Nat.le_refl _))⟩
  exact ⟨s.toks, t, s.toks + 1, Heap.get?_push_size _ rfl⟩
def iRngV (te : TE) : TI := fun σ H R => te σ H fun x H1 => ∃ p hi, x = .ref p ∧ H1 p = some (.rng 0 hi) ∧ 0 ≤ hi ∧ hi < 2 ^ 62 ∧ R (Itr 0 hi.toNat) H1
theorem pi_rngV {X : Cx} {tg e : Expr} {te : TE} (he : PE X e te) : PI X tg e (iRngV te) := by
  refine ⟨fun pins s σ H R I h => ?_⟩
  refine thn (he.run pins s σ H _ I h) fun v s1 ⟨x, H1, I1, r1, q1⟩ => ?_
  obtain ⟨p, hi, rfl, hp, h0, h1, q⟩ := q1
  obtain rfl : v = Value.ref p := r1
  obtain ⟨t, u, w', hob⟩ := I1.hok _ _ hp
  refine wpAny_pyIter_range (show IsRange s1.heap p 0 hi 1 t u w' from hob) (small_one (by decide) (by decide) (by omega) h1) ?_
  refine ⟨s1.heap.objs.size, [s1.heap.objs.size], _, _, H1, rfl, I1.kept (t' := s1.toks) fun b o e => Heap.get?_push_of_some _ e, turn_range _ 0 hi.toNat, ?_, fun b hb => ?_, q⟩
  · have e1 : (0 : Int) + ((0 : Nat) : Int) * 1 = 0 := by simp
    have e2 : ((hi.toNat : Nat) : Int) - ((0 : Nat) : Int) = Builtin.Range.rangeSize 0 hi 1 := by rw [rangeSize_one]; split <;> omega
    show IsRangeIter _ _ (0 + ((0 : Nat) : Int) * 1) (((hi.toNat : Nat) : Int) - ((0 : Nat) : Int)) 1
    rw [e1, e2]
    exact Heap.get?_push_size _ rfl
  · have e : b = s1.heap.objs.size := by simpa using hb
    subst e
    exact I1.fpOk (Nat.le_refl _) (I1.hok.fresh (Nat.le_refl _))

/-! ### enumerate(xs, start=k) -/
/-- the list at a as it stands at each turn, each item in a new pair with its number from k on -/
def Itek (K : PySem.W.Frag) (a : Addr) (k : Int) : It :=
  ⟨fun i H => ∃ (xs : List V) (x : V), SqL K H a xs ∧ xs[i]? = some x, fun i H v H' => ∃ T x, v = .ref T ∧ H T = none ∧ H' = upd H T (.tup [.int (k + (i : Nat)), x]) ∧ ∀ xs, SqL K H a xs → xs[i]? = some x, fun i H => ∃ xs : List V, SqL K H a xs ∧ xs.length = i⟩
theorem turn_enumK {P : Program} {w : World} {K : PySem.W.Frag} {elts : List Expr} {kk : Nat} {tpos : Pos} (a e it : Addr) (k : Int) :
    Turn P w K (.Tuple elts kk tpos) (Itek K a k) [e, it] e (fun i h => (∃ old, IsEnum h e it (k + ((i : Nat) : Int)) old) ∧ h.IsListIter it a i ∧ e ≠ it) where
  mem := by simp
  obj := fun i h st b hb => by
    obtain ⟨⟨old, he⟩, ⟨o, ho, hc, hd⟩, _⟩ := st
    have e' : b = e ∨ b = it := by simpa using hb
    rcases e' with z | z
    · rw [z]; exact ⟨_, he, fun v q => nomatch q⟩
    · rw [z]; exact ⟨o, ho, fun v q => by rw [hd] at q; cases q⟩
  keep := fun i h h' st k => let ⟨⟨old, he⟩, hi, hne⟩ := st; ⟨⟨old, k e (by simp) _ he⟩, hi.at fun o q => k it (by simp) o q, hne⟩
  item := by
    intro X hP hw hK hc i pins s σ H E I hf st hg
    subst hP hw hK
    obtain ⟨⟨old, he⟩, hit, hne⟩ := st
    obtain ⟨xs, x, hq, hx⟩ := hg
    obtain ⟨its, rv, p, hz⟩ := I.list hq
    obtain ⟨u, hu, ru⟩ := rv.get hx
    have hel : e < s.heap.objs.size := Heap.lt_size he
    have hil : it < s.heap.objs.size := by obtain ⟨_, q, _⟩ := hit; exact Heap.lt_size q
    obtain ⟨nae, nai⟩ : a ≠ e ∧ a ≠ it := by
      obtain ⟨o1, h1, c1, _⟩ := p.isList
      obtain ⟨o2, h2, c2, _⟩ := _root_.id hit
      refine ⟨fun z => ?_, fun z => ?_⟩
      · rw [z] at h1
        have he2 : s.heap.get? e = some _ := he
        rw [h1] at he2
        injection he2 with he3
        rw [he3] at c1
        exact absurd (show Value.type "enumerate" = Value.type "list" from c1) (by decide)
      · rw [z, h2] at h1
        injection h1 with h3
        rw [← h3, c2] at c1
        exact absurd c1 (by decide)
    have hh1 : X.A.in1.handled = none := I.ok.hd hc
    refine wpAny_pyNext_enum_itemC (i := i) (Draws.list hh1 it a nai its.toArray) he ⟨hit, p.isList⟩ (by
      have z := (List.getElem?_eq_some_iff.mp hu).1
      simpa using z) hne (by simp [hne, Ne.symm nae]) fun x' h' tk hP ho st' hT hsz hk => ?_
    obtain rfl : u = x' := by
      have hP2 : its.toArray[i]? = some x' := hP
      have hu2 : its.toArray[i]? = some u := by simpa using hu
      rw [hu2] at hP2
      exact Option.some.inj hP2
    obtain ⟨hit', hl'⟩ := st'
    refine ⟨_, rfl, wpAny_letOwnedTupleGo_enum (s := { s with heap := h', toks := tk + 1 }) ho fun h'' he' sb => ?_⟩
    have hT2 : h''.get? s.heap.objs.size = some { cls := .type "tuple", data := .seq #[.int (k + (i : Nat)) tk, u] } := (sb.2 _ (Nat.ne_of_gt hel)).trans hT
    have new : ObjOk X.prog X.w (upd H s.heap.objs.size (.tup [.int (k + (i : Nat)), x])) h'' s.heap.objs.size (.tup [.int (k + (i : Nat)), x]) :=
      ⟨by show 2 ≤ sizeLine; decide, [.int (k + (i : Nat)) tk, u], .cons ⟨_, rfl⟩ (.cons ru .nil), ⟨_, hT2, rfl, _, rfl⟩⟩
    have I1 : Inv X pins σ (upd H s.heap.objs.size (.tup [.int (k + (i : Nat)), x])) { s with heap := h'', toks := tk + 1 } :=
      I.turnedNew (ch := [e, it]) (fun b ob hb q => (sb.2 b (fun z => hb (by simp [z]))).trans (hk b ob (fun z => hb (by simp [z])) (fun z => hb (by simp [z])) q)) hf (Nat.le_refl _) new
    refine ⟨.ref s.heap.objs.size, _, I1, rfl, ⟨_, x, rfl, I.hok.fresh (Nat.le_refl _), rfl, fun ys hy => by rw [I.list_inj hy hq]; exact hx⟩, ⟨⟨u, ?_⟩, hit'.at fun o q => (sb.2 it (Ne.symm hne)).trans q, hne⟩, fun b hb => ?_⟩
    · have e1 : k + ((i + 1 : Nat) : Int) = k + (i : Int) + 1 := by omega
      rw [e1]; exact he'
    · have hb' : b < s.heap.objs.size := by
        have e' : b = e ∨ b = it := by simpa using hb
        rcases e' with z | z
        · rw [z]; exact hel
        · rw [z]; exact hil
      rw [upd_ne (Nat.ne_of_lt hb')]
      exact (hf b hb).1
  done := by
    intro X hP hw hK hc i pins s σ H E I hf st hg
    subst hP hw hK
    obtain ⟨⟨old, he⟩, hit, hne⟩ := st
    obtain ⟨xs, hq, hx⟩ := hg
    obtain ⟨its, rv, p, hz⟩ := I.list hq
    obtain ⟨f0, f1, f2, f3, f4, f5⟩ := hf it (by simp)
    have hl := rv.length
    obtain ⟨nae, nai⟩ : a ≠ e ∧ a ≠ it := by
      obtain ⟨o1, h1, c1, _⟩ := p.isList
      obtain ⟨o2, h2, c2, _⟩ := _root_.id hit
      refine ⟨fun z => ?_, fun z => ?_⟩
      · rw [z] at h1
        have he2 : s.heap.get? e = some _ := he
        rw [h1] at he2
        injection he2 with he3
        rw [he3] at c1
        exact absurd (show Value.type "enumerate" = Value.type "list" from c1) (by decide)
      · rw [z, h2] at h1
        injection h1 with h3
        rw [← h3, c2] at c1
        exact absurd c1 (by decide)
    have hh1 : X.A.in1.handled = none := I.ok.hd hc
    have hi : its.toArray.size = i := by simp; omega
    exact wpAny_pyNext_enum_endD (Draws.list hh1 it a nai its.toArray) he (by rw [hi]; exact ⟨hit, p.isList⟩) fun h' eb => ⟨rfl, I.turned (t' := s.toks) (fun b o hb q => eb b o hb q) f0 f1 f3 f4 f5⟩
  self := fun A i s Q E st h => let ⟨⟨_, he⟩, _⟩ := st; wpAny_pyIter_enum he h
def iEnumK (K : PySem.W.Frag) (ta : TA) (tk : TE) : TI := fun σ H R => ta σ H fun vs H1 => tk σ H1 fun y H2 => ∃ a xs k, vs = [.ref a] ∧ [y] = [V.int k] ∧ SqL K H2 a xs ∧ 0 ≤ k ∧ k < 1000000 ∧ R (Itek K a k) H2
theorem callWith_type_kwB {M : Model} {A : Around} {E : Value → Shared → Prop} {s : Shared} {pos : Pos} {id : String} {first : List Value} {args : List (Bool × Sem Value)} {keywords : List (Option Str × Sem Value)} {Q : Value → Shared → Prop}
    (hplain : args.any (·.1) = false) (hkw : keywords.any (·.1.isNone) = false)
    (h : wpAny M A (evalArgs (.type id) true args keywords) (fun a s₁ => wpAny M A (call (.type id) (first ++ a.pos) a.kw) Q E s₁) E s) :
    wpAny M A (callWith pos (.type id) first args keywords) Q E s := by
  unfold callWith
  refine wpAny_bind (wpAny_holding (wpAny_mono h (fun a s₁ h₁ => wpAny_bind (wpAny_standAt ?_)) fun _ _ x => x))
  simp only [hplain, hkw, Bool.or_false]
  refine wpAny_bind (wpAny_pure ?_)
  exact wpAny_bind (wpAny_mono h₁ (fun r s₂ hr => wpAny_bind (wpAny_holding (wpAny_point (wpAny_pure hr)))) fun _ _ x => x)
theorem pi_enumK {X : Cx} {e k : Expr} {ta : TA} {tk : TE} {p pos tpos kpos : Pos} {elts : List Expr} {kk : Nat} (hg : Gl X "enumerate") (hm : X.mg "enumerate" = none) (ha : PA X [e] ta) (hk : PE X k tk)
    (he : backTo pos (starEach [e] X.env) = (false, eval e X.env) :: backTo pos (starEach [] X.env) := by rfl) (hpl : (backTo pos (starEach [e] X.env)).any (·.1) = false := by rfl)
    (hall : (backToKw pos (keywordEach [⟨some "start", k, kpos⟩] X.env)).all (·.1.isSome) = true := by rfl) (hnone : (backToKw pos (keywordEach [⟨some "start", k, kpos⟩] X.env)).any (·.1.isNone) = false := by rfl)
    (hks : (backToKw pos (keywordEach [⟨some "start", k, kpos⟩] X.env)).filterMap (·.1) = [Str.ofString "start"] := by rfl) :
    PI X (.Tuple elts kk tpos) (.Call (.Name "enumerate" p) [e] [⟨some "start", k, kpos⟩] pos) (iEnumK X.K ta tk) := by
  refine ⟨fun pins s σ H R I h => ?_⟩
  refine wpAny_Call_Name_kw (ld_blt I hg hm boot_enumerate ?_)
  refine callWith_type_kwB hpl hnone ?_
  rw [he]
  refine PyProof.Rows.evalArgs_kwB hall ?_
  rw [← he]
  have hk2 : PK X [⟨some "start", k, kpos⟩] (tCons tk tNil) := pk_cons hk pk_nil
  refine thn (ha.run pos pins s σ H _ I h) fun us s1 ⟨vs, H1, I1, r1, q1⟩ => thn (hk2.run pos pins s1 σ H1 (fun zs H2 => ∃ a xs k, vs = [.ref a] ∧ zs = [.int k] ∧ SqL X.K H2 a xs ∧ 0 ≤ k ∧ k < 1000000 ∧ R (Itek X.K a k) H2) I1 ?_) fun ws s2 ⟨zs, H2, I2, r2, q2⟩ => ?_
  · exact q1
  · obtain ⟨a, xs, k', rfl, rfl, hq, hk0, hk1, q⟩ := q2
    obtain ⟨u1, rfl, ru⟩ := vals1 r1
    obtain rfl : u1 = Value.ref a := ru
    obtain ⟨w1, rfl, rw1⟩ := vals1 r2
    obtain ⟨t, rfl⟩ := rw1
    rw [hks]
    obtain ⟨its, rv, p', hz⟩ := I2.list hq
    refine enum_begins_start (k := k') (t := t) (begins_list a its.toArray) p'.isList (by omega) (by omega) fun h' hen hit hsz hkeep => wpAny_pyIter_enum hen ?_
    have I3 : Inv X pins σ H2 { s2 with heap := h' } := I2.kept (t' := s2.toks) hkeep
    refine ⟨s2.heap.objs.size + 1, [s2.heap.objs.size + 1, s2.heap.objs.size], _, _, H2, rfl, I3, turn_enumK a (s2.heap.objs.size + 1) s2.heap.objs.size k', ⟨⟨.none, by simpa using hen⟩, ⟨_, hit, rfl, rfl⟩, Nat.succ_ne_self _⟩, fun b hb => ?_, q⟩
    have e' : b = s2.heap.objs.size + 1 ∨ b = s2.heap.objs.size := by simpa using hb
    have hle : s2.heap.objs.size ≤ b := by
      rcases e' with z | z
      · rw [z]; exact Nat.le_add_right _ _
      · rw [z]; exact Nat.le_refl _
    exact I2.fpOk hle (I2.hok.fresh hle)
end Cm
set_option maxHeartbeats 4000000
namespace Cm
open PySem PySem.Spec PyProof.Rows L2
def top (i : Nat) : Stmt := PySem.Challenge.pw_coremill_k21_words_apart.main.body.getD i (.Pass ⟨0, 0, 0, 0⟩)
/-- the written part and the addresses of what the top has made -/
structure En where
  K : PySem.W.Frag
  Caches : Addr
  Scheme : Addr
  FLAGS : Addr
  STATE_COUNTS : Addr
structure Txt (e : En) (mg : Str → Option Value) : Prop where
  f_abs : mg "abs" = none
  f_bool : mg "bool" = none
  f_enumerate : mg "enumerate" = none
  f_int : mg "int" = none
  f_isinstance : mg "isinstance" = none
  f_len : mg "len" = none
  f_list : mg "list" = none
  f_range : mg "range" = none
  f_str : mg "str" = none
  f_tuple : mg "tuple" = none
  g_BYTE : ∃ u, mg "BYTE" = some u ∧ RelV (.int 255) u
  g_DIGITS : ∃ u, mg "DIGITS" = some u ∧ RelV (.str "0123456789") u
  g_FLAGS : ∃ u, mg "FLAGS" = some u ∧ RelV (.ref e.FLAGS) u
  g_HEAD_LINES : ∃ u, mg "HEAD_LINES" = some u ∧ RelV (.int 6) u
  g_LONGEST_NAME : ∃ u, mg "LONGEST_NAME" = some u ∧ RelV (.int 12) u
  g_MOST_LINES : ∃ u, mg "MOST_LINES" = some u ∧ RelV (.int 4000) u
  g_MOST_SIGNS : ∃ u, mg "MOST_SIGNS" = some u ∧ RelV (.int 120) u
  g_MOST_STATES : ∃ u, mg "MOST_STATES" = some u ∧ RelV (.int 4) u
  g_SMALL_LETTERS : ∃ u, mg "SMALL_LETTERS" = some u ∧ RelV (.str "abcdefghijklmnopqrstuvwxyz") u
  g_STATE_COUNTS : ∃ u, mg "STATE_COUNTS" = some u ∧ RelV (.ref e.STATE_COUNTS) u
structure Tx (e : En) : Prop where
  cl_Caches : Cls e.K e.Caches
  cl_Scheme : Cls e.K e.Scheme
  na_Caches_copies : NoAttr e.K e.Caches "copies"
  na_Caches_memory : NoAttr e.K e.Caches "memory"
  na_Caches_protocol : NoAttr e.K e.Caches "protocol"
  na_Caches_states : NoAttr e.K e.Caches "states"
  na_Scheme_cleanread : NoAttr e.K e.Scheme "cleanread"
  na_Scheme_cleansteal : NoAttr e.K e.Scheme "cleansteal"
  na_Scheme_giveread : NoAttr e.K e.Scheme "giveread"
  na_Scheme_givesteal : NoAttr e.K e.Scheme "givesteal"
  na_Scheme_lone : NoAttr e.K e.Scheme "lone"
  na_Scheme_name : NoAttr e.K e.Scheme "name"
  na_Scheme_onread : NoAttr e.K e.Scheme "onread"
  na_Scheme_onsteal : NoAttr e.K e.Scheme "onsteal"
  na_Scheme_own : NoAttr e.K e.Scheme "own"
  na_Scheme_shared : NoAttr e.K e.Scheme "shared"
  na_Scheme_states : NoAttr e.K e.Scheme "states"
  na_Scheme_through : NoAttr e.K e.Scheme "through"
  na_Scheme_write : NoAttr e.K e.Scheme "write"
  na_Scheme_writeback : NoAttr e.K e.Scheme "writeback"
  tu_FLAGS : ∀ H : Hp, SqT e.K H e.FLAGS [V.str "giveread", V.str "cleanread", V.str "givesteal", V.str "cleansteal", V.str "back"]
  tu_STATE_COUNTS : ∀ H : Hp, SqT e.K H e.STATE_COUNTS [V.int 5, V.int 6, V.int 7, V.int 8, V.int 9, V.int 10]
end Cm
set_option maxHeartbeats 1000000
/-! The mirror: the state of one word (a column), what each access makes of it; how the heap bears it. -/
namespace Cm
open PySem PySem.Spec PyProof.Rows L2

/-! ### functions changed at a place -/
def fset {α : Type} (f : Nat → α) (i : Nat) (v : α) : Nat → α := fun k => if k = i then v else f k
theorem fset_same {α : Type} {f : Nat → α} {i : Nat} {v : α} : fset f i v i = v := if_pos rfl
theorem fset_ne {α : Type} {f : Nat → α} {i k : Nat} {v : α} (h : k ≠ i) : fset f i v k = f k := if_neg h
theorem fset_id {α : Type} {f : Nat → α} {i : Nat} : fset f i (f i) = f := by
  funext k
  unfold fset
  split
  · rename_i h; rw [h]
  · rfl
def row {α : Type} (g : α → V) (n : Nat) (f : Nat → α) : List V := (List.range n).map fun i => g (f i)
abbrev rowI (n : Nat) (f : Nat → Int) : List V := row V.int n f
abbrev rowN (n : Nat) (f : Nat → Nat) : List V := row (fun k : Nat => V.int (k : Int)) n f
abbrev rowB (n : Nat) (f : Nat → Bool) : List V := row V.bl n f
abbrev rowR (n : Nat) (f : Nat → Addr) : List V := row V.ref n f
section
variable {α : Type} {g : α → V} {n i : Nat} {f : Nat → α} {v : α}
theorem row_len : (row g n f).length = n := by unfold row; rw [List.length_map, List.length_range]
theorem row_get (h : i < n) : (row g n f)[i]? = some (g (f i)) := by
  unfold row
  rw [List.getElem?_map, List.getElem?_range h] <;> rfl
theorem row_at (h : i < n) : atI (row g n f) (i : Int) = some (g (f i)) := atI_nat (row_get h)
theorem row_set (h : i < n) : (row g n f).set i (g v) = row g n (fset f i v) := by
  apply List.ext_getElem?
  intro k
  by_cases hk : k = i
  · subst hk
    rw [List.getElem?_set_self (by rw [row_len]; exact h), row_get h, fset_same]
  · rw [List.getElem?_set_ne (fun z => hk z.symm)]
    by_cases hn : k < n
    · rw [row_get hn, row_get hn, fset_ne hk]
    · rw [List.getElem?_eq_none (by rw [row_len]; omega), List.getElem?_eq_none (by rw [row_len]; omega)]
theorem row_ix (h : i < n) : ixN (row g n f).length (i : Int) = some i := by
  unfold ixN
  rw [row_len, if_pos (by omega), if_pos (by omega)] <;> rfl
theorem row_congr {f' : Nat → α} (h : ∀ k, k < n → f k = f' k) : row g n f = row g n f' := by
  unfold row
  exact List.map_congr_left fun k hk => by rw [h k (List.mem_range.mp hk)]
theorem row_zero (n : Nat) : (List.replicate n [V.int 0]).flatten = rowI n fun _ => 0 := by
  apply List.ext_getElem?
  intro k
  have e : (List.replicate n [V.int 0]).flatten = List.replicate n (V.int 0) := by
    induction n with
    | zero => rfl
    | succ m ih => rw [List.replicate_succ, List.replicate_succ, List.flatten_cons, ih] <;> rfl
  rw [e]
  by_cases hk : k < n
  · rw [row_get hk, List.getElem?_replicate, if_pos hk]
  · rw [List.getElem?_eq_none (by rw [List.length_replicate]; omega), List.getElem?_eq_none (by rw [row_len]; omega)]
theorem rowN_zero (n : Nat) : (rowN n fun _ => 0) = rowI n fun _ => 0 := rfl
end

/-! ### a protocol, a column -/
structure Pr where
  n : Nat
  lone : Nat
  shared : Nat
  own : Nat
  thr : Bool
  wr : Nat → Nat
  rd : Nat → Nat
  st : Nat → Nat
  gr : Nat → Bool
  cr : Nat → Bool
  gs : Nat → Bool
  cs : Nat → Bool
  bk : Nat → Bool
structure Pr.Ok (p : Pr) : Prop where
  n4 : p.n ≤ 4
  lone1 : 1 ≤ p.lone ∧ p.lone ≤ p.n
  shared1 : 1 ≤ p.shared ∧ p.shared ≤ p.n
  own1 : 1 ≤ p.own ∧ p.own ≤ p.n
  wr1 : ∀ i, p.wr i ≤ p.n
  rd1 : ∀ i, p.rd i ≤ p.n
  st1 : ∀ i, p.st i ≤ p.n
  zero : p.wr 0 = 0 ∧ p.rd 0 = 0 ∧ p.st 0 = 0 ∧ p.gr 0 = false ∧ p.cr 0 = false ∧ p.gs 0 = false ∧ p.cs 0 = false ∧ p.bk 0 = false
structure Col where
  s : Nat → Nat
  c : Nat → Int
  m : Int
/-- the words are below 2 ^ 64, states in range, no copy in state 0 -/
structure Col.Ok (n : Nat) (x : Col) : Prop where
  st : ∀ k, x.s k ≤ n
  z : ∀ k, x.s k = 0 → x.c k = 0
  cb : ∀ k, 0 ≤ x.c k ∧ x.c k < 2 ^ 64
  mb : 0 ≤ x.m ∧ x.m < 2 ^ 64
def holders (count c : Nat) (x : Col) : List Nat := (List.range count).filter fun k => decide (k ≠ c) && decide (0 < x.s k)
def cleaned (cl : Nat → Bool) (hs : List Nat) (x : Col) : Int := hs.foldl (fun m k => if cl (x.s k) = true then x.c k else m) x.m
def given (gv : Nat → Bool) (hs : List Nat) (x : Col) : Option Int := (hs.find? fun k => gv (x.s k)).map x.c
def fetched (gv : Nat → Bool) (hs : List Nat) (x : Col) (m : Int) : Int := (given gv hs x).getD m
def moved (mv : Nat → Nat) (hs : List Nat) (x : Col) : Col := ⟨fun k => if k ∈ hs then mv (x.s k) else x.s k, fun k => if k ∈ hs ∧ mv (x.s k) = 0 then 0 else x.c k, x.m⟩
/-- the bytes of new that the cover names, all others of old: as the law says it -/
def mrg (old new : Int) (cover : Nat) : Int := ((List.range 8).map fun k => (if cover / 2 ^ k % 2 = 1 then new else old) / 2 ^ (8 * k) % 256 * 2 ^ (8 * k)).sum
def ldC (p : Pr) (count c : Nat) (x : Col) : Col :=
  if 0 < x.s c then x else
    ⟨fset (moved p.rd (holders count c x) x).s c (if 0 < (holders count c x).length then p.shared else p.lone),
      fset (moved p.rd (holders count c x) x).c c (fetched p.gr (holders count c x) x (cleaned p.cr (holders count c x) x)), cleaned p.cr (holders count c x) x⟩
def stealC (p : Pr) (count c : Nat) (x : Col) : Col :=
    ⟨fset (moved p.st (holders count c x) x).s c p.own,
      if x.s c = 0 then fset (moved p.st (holders count c x) x).c c (fetched p.gs (holders count c x) x (cleaned p.cs (holders count c x) x)) else (moved p.st (holders count c x) x).c, cleaned p.cs (holders count c x) x⟩
def ownedC (p : Pr) (count c : Nat) (x : Col) : Col := if 0 < p.wr (x.s c) then { x with s := fset x.s c (p.wr (x.s c)) } else stealC p count c x
def stC (p : Pr) (count c cover : Nat) (laid : Int) (x : Col) : Col :=
  { ownedC p count c x with c := fset (ownedC p count c x).c c (mrg ((ownedC p count c x).c c) laid cover), m := if p.thr = true then mrg ((ownedC p count c x).c c) laid cover else (ownedC p count c x).m }
def lvC (p : Pr) (c : Nat) (x : Col) : Col := if 0 < x.s c then ⟨fset x.s c 0, fset x.c c 0, if p.bk (x.s c) = true then x.c c else x.m⟩ else x
/-- an access: kind, cache, word, cover, value -/
inductive Kd where
  | load | store | leave
structure Acc where
  k : Kd
  c : Nat
  w : Nat
  cov : Nat
  v : Int
def stepC (pp : Option Pr) (count : Nat) (a : Acc) (x : Col) : Col := match pp, a.k with
  | none, .load => x
  | none, .store => { x with m := mrg x.m a.v a.cov }
  | none, .leave => x
  | some p, .load => ldC p count a.c x
  | some p, .store => stC p count a.c a.cov a.v x
  | some p, .leave => lvC p a.c x
def stepV (pp : Option Pr) (count : Nat) (a : Acc) (x : Col) : V := match pp, a.k with
  | none, .load => .int x.m
  | none, .store => .int x.m
  | none, .leave => .non
  | some p, .load => .int ((ldC p count a.c x).c a.c)
  | some p, .store => .int ((ownedC p count a.c x).c a.c)
  | some _, .leave => .non

/-! ### how the heap bears it -/
/-- all that was tracked outside of F stands -/
def Fr (F : List Addr) (H H' : Hp) : Prop := ∀ b o, H b = some o → b ∉ F → H' b = some o
theorem Fr.refl (F : List Addr) (H : Hp) : Fr F H H := fun _ _ h _ => h
theorem Fr.trans {F : List Addr} {H H1 H2 : Hp} (a : Fr F H H1) (b : Fr F H1 H2) : Fr F H H2 := fun c o h n => b c o (a c o h n) n
theorem Fr.of_same {F : List Addr} {H H1 : Hp} (a : Same H H1) : Fr F H H1 := fun c o h _ => a c o h
theorem Fr.upd {F : List Addr} {H : Hp} {a : Addr} {o : HO} (h : a ∈ F) : Fr F H (upd H a o) := fun c u e n => by
  rw [upd_ne (fun z => n (by rw [z]; exact h))]
  exact e
theorem Fr.mono {F G : List Addr} {H H1 : Hp} (a : Fr F H H1) (s : ∀ b, b ∈ F → b ∈ G) : Fr G H H1 := fun c o h n => a c o h fun m => n (s c m)
theorem Same.new {H : Hp} {a : Addr} {o : HO} (h : H a = none) : Same H (L2.upd H a o) := fun c u e => by
  rw [upd_ne (ne_of_none e h)]
  exact e
/-- a Caches's addresses -/
structure CR where
  p : Addr
  dx : Addr
  m : Addr
  S : Addr
  C : Addr
  sk : Nat → Addr
  ck : Nat → Addr
def CR.dom (count : Nat) (r : CR) : List Addr := r.p :: r.m :: r.S :: r.C :: ((List.range count).map r.sk ++ (List.range count).map r.ck)
def cf (pv m S C : V) : List (Str × V) := [("protocol", pv), ("memory", m), ("states", S), ("copies", C)]
theorem cf_protocol {pv m S C : V} : (cf pv m S C).lookup ("protocol" : Str) = some pv := rfl
theorem cf_memory {pv m S C : V} : (cf pv m S C).lookup ("memory" : Str) = some m := rfl
theorem cf_states {pv m S C : V} : (cf pv m S C).lookup ("states" : Str) = some S := rfl
theorem cf_copies {pv m S C : V} : (cf pv m S C).lookup ("copies" : Str) = some C := rfl
structure CAat (e : En) (H : Hp) (count words : Nat) (r : CR) (pv : V) (X : Nat → Col) : Prop where
  ob : H r.p = some (.ins e.Caches r.dx (cf pv (.ref r.m) (.ref r.S) (.ref r.C)))
  hm : H r.m = some (.lst (rowI words fun w => (X w).m))
  hS : H r.S = some (.lst (rowR count r.sk))
  hC : H r.C = some (.lst (rowR count r.ck))
  hs : ∀ k, k < count → H (r.sk k) = some (.lst (rowN words fun w => (X w).s k))
  hc : ∀ k, k < count → H (r.ck k) = some (.lst (rowI words fun w => (X w).c k))
  nd : (r.dom count).Nodup
section
variable {e : En} {H H' : Hp} {count words : Nat} {r : CR} {pv : V} {X : Nat → Col}
theorem CR.mp : r.p ∈ r.dom count := List.mem_cons_self ..
theorem CR.mm : r.m ∈ r.dom count := List.mem_cons_of_mem _ (List.mem_cons_self ..)
theorem CR.mS : r.S ∈ r.dom count := List.mem_cons_of_mem _ (List.mem_cons_of_mem _ (List.mem_cons_self ..))
theorem CR.mC : r.C ∈ r.dom count := List.mem_cons_of_mem _ (List.mem_cons_of_mem _ (List.mem_cons_of_mem _ (List.mem_cons_self ..)))
theorem CR.msk {k : Nat} (h : k < count) : r.sk k ∈ r.dom count :=
  List.mem_cons_of_mem _ (List.mem_cons_of_mem _ (List.mem_cons_of_mem _ (List.mem_cons_of_mem _ (List.mem_append_left _ (List.mem_map.mpr ⟨k, List.mem_range.mpr h, rfl⟩)))))
theorem CR.mck {k : Nat} (h : k < count) : r.ck k ∈ r.dom count :=
  List.mem_cons_of_mem _ (List.mem_cons_of_mem _ (List.mem_cons_of_mem _ (List.mem_cons_of_mem _ (List.mem_append_right _ (List.mem_map.mpr ⟨k, List.mem_range.mpr h, rfl⟩)))))
/-- what lies apart in a Caches -/
structure CR.Apart (count : Nat) (r : CR) : Prop where
  pm : r.p ≠ r.m
  pS : r.p ≠ r.S
  pC : r.p ≠ r.C
  ps : ∀ k, k < count → r.p ≠ r.sk k
  pc : ∀ k, k < count → r.p ≠ r.ck k
  mS : r.m ≠ r.S
  mC : r.m ≠ r.C
  ms : ∀ k, k < count → r.m ≠ r.sk k
  mc : ∀ k, k < count → r.m ≠ r.ck k
  SC : r.S ≠ r.C
  Ss : ∀ k, k < count → r.S ≠ r.sk k
  Sc : ∀ k, k < count → r.S ≠ r.ck k
  Cs : ∀ k, k < count → r.C ≠ r.sk k
  Cc : ∀ k, k < count → r.C ≠ r.ck k
  ss : ∀ j k, j < count → k < count → j ≠ k → r.sk j ≠ r.sk k
  cc : ∀ j k, j < count → k < count → j ≠ k → r.ck j ≠ r.ck k
  sc : ∀ j k, j < count → k < count → r.sk j ≠ r.ck k
theorem nd_map_inj {f : Nat → Addr} {n : Nat} (h : ((List.range n).map f).Nodup) {j k : Nat} (hj : j < n) (hk : k < n) (hne : j ≠ k) : f j ≠ f k := fun e => by
  have h1 : ((List.range n).map f)[j]? = some (f j) := by rw [List.getElem?_map, List.getElem?_range hj] <;> rfl
  have h2 : ((List.range n).map f)[k]? = some (f j) := by rw [List.getElem?_map, List.getElem?_range hk, e] <;> rfl
  exact hne (nd_ix h h1 h2)
theorem CR.apart (h : (r.dom count).Nodup) : r.Apart count := by
  unfold CR.dom at h
  simp only [List.nodup_cons, List.mem_cons, List.mem_append, List.mem_map, List.mem_range, not_or, not_exists, not_and, List.nodup_append] at h
  obtain ⟨⟨h1, h2, h3, h4, h5⟩, ⟨h6, h7, h8, h9⟩, ⟨h10, h11, h12⟩, ⟨h13, h14⟩, h15, h16, h17⟩ := h
  exact ⟨h1, h2, h3, fun k hk z => h4 k hk z.symm, fun k hk z => h5 k hk z.symm, h6, h7, fun k hk z => h8 k hk z.symm, fun k hk z => h9 k hk z.symm, h10, fun k hk z => h11 k hk z.symm, fun k hk z => h12 k hk z.symm,
    fun k hk z => h13 k hk z.symm, fun k hk z => h14 k hk z.symm, fun j k hj hk hn => nd_map_inj h15 hj hk hn, fun j k hj hk hn => nd_map_inj h16 hj hk hn, fun j k hj hk z => h17 _ ⟨j, hj, rfl⟩ _ ⟨k, hk, rfl⟩ z⟩
theorem CAat.frame (h : CAat e H count words r pv X) (f : ∀ b o, b ∈ r.dom count → H b = some o → H' b = some o) : CAat e H' count words r pv X :=
  ⟨f _ _ CR.mp h.ob, f _ _ CR.mm h.hm, f _ _ CR.mS h.hS, f _ _ CR.mC h.hC, fun k hk => f _ _ (CR.msk hk) (h.hs k hk), fun k hk => f _ _ (CR.mck hk) (h.hc k hk), h.nd⟩
theorem CAat.same (h : CAat e H count words r pv X) (f : Same H H') : CAat e H' count words r pv X := h.frame fun b o _ q => f b o q
theorem CAat.fr {F : List Addr} (h : CAat e H count words r pv X) (f : Fr F H H') (d : ∀ b, b ∈ r.dom count → b ∉ F) : CAat e H' count words r pv X := h.frame fun b o hb q => f b o q (d b hb)
/-- a column put in -/
def setW (X : Nat → Col) (w : Nat) (x : Col) : Nat → Col := fset X w x
theorem CAat.setS {w k v : Nat} (h : CAat e H count words r pv X) (hw : w < words) (hk : k < count) :
    CAat e (upd H (r.sk k) (.lst ((rowN words fun w => (X w).s k).set w (.int (v : Int))))) count words r pv (setW X w { X w with s := fset (X w).s k v }) := by
  have a := CR.apart h.nd
  have e1 : ∀ w', (setW X w { X w with s := fset (X w).s k v } w').m = (X w').m := fun w' => by
    unfold setW fset
    split
    · rename_i z; rw [z]
    · rfl
  have e2 : ∀ w' j, (setW X w { X w with s := fset (X w).s k v } w').c j = (X w').c j := fun w' j => by
    unfold setW fset
    split
    · rename_i z; rw [z]
    · rfl
  have e3 : ∀ w' j, j ≠ k → (setW X w { X w with s := fset (X w).s k v } w').s j = (X w').s j := fun w' j hj => by
    unfold setW fset
    split
    · rename_i z; rw [z]; exact if_neg hj
    · rfl
  have e4 : (fun w' => (setW X w { X w with s := fset (X w).s k v } w').s k) = fset (fun w' => (X w').s k) w v := by
    funext w'
    unfold setW fset
    split
    · exact if_pos rfl
    · rfl
  refine ⟨?_, ?_, ?_, ?_, fun j hj => ?_, fun j hj => ?_, h.nd⟩
  · rw [upd_ne (a.ps k hk)]; exact h.ob
  · rw [upd_ne (a.ms k hk), h.hm]; exact congrArg (fun z => some (HO.lst z)) (row_congr fun w' _ => (e1 w').symm)
  · rw [upd_ne (a.Ss k hk)]; exact h.hS
  · rw [upd_ne (a.Cs k hk)]; exact h.hC
  · by_cases hjk : j = k
    · subst hjk
      rw [upd_same, e4]
      exact congrArg (fun z => some (HO.lst z)) (row_set (g := fun k : Nat => V.int (k : Int)) hw)
    · rw [upd_ne (a.ss j k hj hk hjk), h.hs j hj]; exact congrArg (fun z => some (HO.lst z)) (row_congr fun w' _ => (e3 w' j hjk).symm)
  · rw [upd_ne (fun z => a.sc k j hk hj z.symm), h.hc j hj]; exact congrArg (fun z => some (HO.lst z)) (row_congr fun w' _ => (e2 w' j).symm)
theorem CAat.setC {w k : Nat} {v : Int} (h : CAat e H count words r pv X) (hw : w < words) (hk : k < count) :
    CAat e (upd H (r.ck k) (.lst ((rowI words fun w => (X w).c k).set w (.int v)))) count words r pv (setW X w { X w with c := fset (X w).c k v }) := by
  have a := CR.apart h.nd
  have e1 : ∀ w', (setW X w { X w with c := fset (X w).c k v } w').m = (X w').m := fun w' => by
    unfold setW fset
    split
    · rename_i z; rw [z]
    · rfl
  have e2 : ∀ w' j, (setW X w { X w with c := fset (X w).c k v } w').s j = (X w').s j := fun w' j => by
    unfold setW fset
    split
    · rename_i z; rw [z]
    · rfl
  have e3 : ∀ w' j, j ≠ k → (setW X w { X w with c := fset (X w).c k v } w').c j = (X w').c j := fun w' j hj => by
    unfold setW fset
    split
    · rename_i z; rw [z]; exact if_neg hj
    · rfl
  have e4 : (fun w' => (setW X w { X w with c := fset (X w).c k v } w').c k) = fset (fun w' => (X w').c k) w v := by
    funext w'
    unfold setW fset
    split
    · exact if_pos rfl
    · rfl
  refine ⟨?_, ?_, ?_, ?_, fun j hj => ?_, fun j hj => ?_, h.nd⟩
  · rw [upd_ne (a.pc k hk)]; exact h.ob
  · rw [upd_ne (a.mc k hk), h.hm]; exact congrArg (fun z => some (HO.lst z)) (row_congr fun w' _ => (e1 w').symm)
  · rw [upd_ne (a.Sc k hk)]; exact h.hS
  · rw [upd_ne (a.Cc k hk)]; exact h.hC
  · rw [upd_ne (a.sc j k hj hk), h.hs j hj]; exact congrArg (fun z => some (HO.lst z)) (row_congr fun w' _ => (e2 w' j).symm)
  · by_cases hjk : j = k
    · subst hjk
      rw [upd_same, e4]
      exact congrArg (fun z => some (HO.lst z)) (row_set (g := V.int) hw)
    · rw [upd_ne (a.cc j k hj hk hjk), h.hc j hj]; exact congrArg (fun z => some (HO.lst z)) (row_congr fun w' _ => (e3 w' j hjk).symm)
theorem CAat.setM {w : Nat} {v : Int} (h : CAat e H count words r pv X) (hw : w < words) :
    CAat e (upd H r.m (.lst ((rowI words fun w => (X w).m).set w (.int v)))) count words r pv (setW X w { X w with m := v }) := by
  have a := CR.apart h.nd
  have e1 : (fun w' => (setW X w { X w with m := v } w').m) = fset (fun w' => (X w').m) w v := by
    funext w'
    unfold setW fset
    split
    · rfl
    · rfl
  have e2 : ∀ w' j, (setW X w { X w with m := v } w').s j = (X w').s j := fun w' j => by
    unfold setW fset
    split
    · rename_i z; rw [z]
    · rfl
  have e3 : ∀ w' j, (setW X w { X w with m := v } w').c j = (X w').c j := fun w' j => by
    unfold setW fset
    split
    · rename_i z; rw [z]
    · rfl
  refine ⟨?_, ?_, ?_, ?_, fun j hj => ?_, fun j hj => ?_, h.nd⟩
  · rw [upd_ne a.pm]; exact h.ob
  · rw [upd_same, e1]; exact congrArg (fun z => some (HO.lst z)) (row_set (g := V.int) hw)
  · rw [upd_ne a.mS.symm]; exact h.hS
  · rw [upd_ne a.mC.symm]; exact h.hC
  · rw [upd_ne (a.ms j hj).symm, h.hs j hj]; exact congrArg (fun z => some (HO.lst z)) (row_congr fun w' _ => (e2 w' j).symm)
  · rw [upd_ne (a.mc j hj).symm, h.hc j hj]; exact congrArg (fun z => some (HO.lst z)) (row_congr fun w' _ => (e3 w' j).symm)
theorem setW_setW {w : Nat} {x y : Col} : setW (setW X w x) w y = setW X w y := by
  funext k
  unfold setW fset
  split <;> rfl
theorem setW_same {w : Nat} {x : Col} : setW X w x w = x := fset_same
theorem setW_id {w : Nat} : setW X w (X w) = X := fset_id
end

/-- a Scheme's addresses -/
structure SR where
  a : Addr
  dx : Addr
  wr : Addr
  rd : Addr
  st : Addr
  gr : Addr
  cr : Addr
  gs : Addr
  cs : Addr
  bk : Addr
def SR.dom (r : SR) : List Addr := [r.a, r.wr, r.rd, r.st, r.gr, r.cr, r.gs, r.cs, r.bk]
def sf (r : SR) (nm : V) (p : Pr) : List (Str × V) := [("name", nm), ("states", .int (p.n : Nat)), ("lone", .int (p.lone : Nat)), ("shared", .int (p.shared : Nat)), ("own", .int (p.own : Nat)), ("through", .bl p.thr), ("write", .ref r.wr), ("onread", .ref r.rd), ("onsteal", .ref r.st), ("giveread", .ref r.gr), ("cleanread", .ref r.cr), ("givesteal", .ref r.gs), ("cleansteal", .ref r.cs), ("writeback", .ref r.bk)]
structure SCat (e : En) (H : Hp) (r : SR) (p : Pr) : Prop where
  ob : ∃ nm, H r.a = some (.ins e.Scheme r.dx (sf r nm p))
  wr : H r.wr = some (.lst (rowN (p.n + 1) p.wr))
  rd : H r.rd = some (.lst (rowN (p.n + 1) p.rd))
  st : H r.st = some (.lst (rowN (p.n + 1) p.st))
  gr : H r.gr = some (.lst (rowB (p.n + 1) p.gr))
  cr : H r.cr = some (.lst (rowB (p.n + 1) p.cr))
  gs : H r.gs = some (.lst (rowB (p.n + 1) p.gs))
  cs : H r.cs = some (.lst (rowB (p.n + 1) p.cs))
  bk : H r.bk = some (.lst (rowB (p.n + 1) p.bk))
theorem SCat.frame {e : En} {H H' : Hp} {r : SR} {p : Pr} (h : SCat e H r p) (f : ∀ b o, b ∈ r.dom → H b = some o → H' b = some o) : SCat e H' r p := by
  obtain ⟨⟨nm, h0⟩, h1, h2, h3, h4, h5, h6, h7, h8⟩ := h
  exact ⟨⟨nm, f _ _ (by simp [SR.dom]) h0⟩, f _ _ (by simp [SR.dom]) h1, f _ _ (by simp [SR.dom]) h2, f _ _ (by simp [SR.dom]) h3, f _ _ (by simp [SR.dom]) h4, f _ _ (by simp [SR.dom]) h5, f _ _ (by simp [SR.dom]) h6, f _ _ (by simp [SR.dom]) h7, f _ _ (by simp [SR.dom]) h8⟩
/-- a protocol or none, as a value -/
def PPat (e : En) (H : Hp) (F : List Addr) (pp : Option (SR × Pr)) (pv : V) : Prop := match pp with
  | none => pv = .non
  | some (r, p) => pv = .ref r.a ∧ SCat e H r p ∧ p.Ok ∧ ∀ b, b ∈ r.dom → b ∉ F
theorem PPat.fr {e : En} {H H' : Hp} {F : List Addr} {pp : Option (SR × Pr)} {pv : V} (h : PPat e H F pp pv) (f : Fr F H H') : PPat e H' F pp pv := by
  cases pp with
  | none => exact h
  | some q => exact ⟨h.1, h.2.1.frame fun b o hb z => f b o z (h.2.2.2 b hb), h.2.2⟩
end Cm
set_option maxHeartbeats 1000000
/-! The promises. -/
namespace Cm
open PySem PySem.Spec PyProof.Rows L2

/-! ### the law's lines -/
structure LR where
  l : Addr
  s : Addr
  c : Addr
def LR.dom (r : LR) : List Addr := [r.l, r.s, r.c]
structure LNat (H : Hp) (count : Nat) (r : LR) (x : Col) : Prop where
  l : H r.l = some (.lst [.ref r.s, .ref r.c, .int x.m])
  s : H r.s = some (.lst (rowN count x.s))
  c : H r.c = some (.lst (rowI count x.c))
  nd : r.dom.Nodup
/-- the list of the lines -/
structure LLat (H : Hp) (count words : Nat) (a : Addr) (lr : Nat → LR) (X : Nat → Col) : Prop where
  hd : H a = some (.lst (rowR words fun w => (lr w).l))
  at_ : ∀ w, w < words → LNat H count (lr w) (X w)
  nd : (a :: (List.range words).flatMap fun w => (lr w).dom).Nodup
def LLdom (words : Nat) (a : Addr) (lr : Nat → LR) : List Addr := a :: (List.range words).flatMap fun w => (lr w).dom

/-! ### the law's table -/
def flagsL (p : Pr) (i : Nat) : List Str := (if p.gr i = true then ([("giveread" : Str)] : List Str) else []) ++ (if p.cr i = true then ([("cleanread" : Str)] : List Str) else []) ++ (if p.gs i = true then ([("givesteal" : Str)] : List Str) else []) ++ (if p.cs i = true then ([("cleansteal" : Str)] : List Str) else []) ++ (if p.bk i = true then ([("back" : Str)] : List Str) else [])
structure TR where
  a : Addr
  rows : Addr
  ra : Nat → Addr
  fa : Nat → Addr
def TR.dom (n : Nat) (r : TR) : List Addr := r.a :: r.rows :: ((List.range (n + 1)).map r.ra ++ (List.range (n + 1)).map r.fa)
def tf (r : TR) (p : Pr) : List (Key × V) := [(.inr "lone", .int (p.lone : Nat)), (.inr "shared", .int (p.shared : Nat)), (.inr "own", .int (p.own : Nat)), (.inr "through", .bl p.thr), (.inr "rows", .ref r.rows)]
structure TBat (H : Hp) (r : TR) (p : Pr) : Prop where
  hd : H r.a = some (.dK (tf r p))
  rows : H r.rows = some (.lst (rowR (p.n + 1) r.ra))
  ra : ∀ i, i ≤ p.n → H (r.ra i) = some (.tup [.int (p.wr i : Nat), .int (p.rd i : Nat), .int (p.st i : Nat), .ref (r.fa i)])
  fa : ∀ i, i ≤ p.n → H (r.fa i) = some (.lst ((flagsL p i).map V.str))
def TPat (H : Hp) (F : List Addr) (pp : Option (TR × Pr)) (pv : V) : Prop := match pp with
  | none => pv = .non
  | some (r, p) => pv = .ref r.a ∧ TBat H r p ∧ p.Ok ∧ ∀ b, b ∈ r.dom p.n → b ∉ F

/-! ### texts -/
def dg (d : Nat) : Str := toString (d : Int)
/-- the text's lines, each by its words -/
def lines (nm : Str) (p : Pr) : List (List Str) :=
  [([("protocol" : Str), nm] : List Str), [("states" : Str), dg p.n], [("lone" : Str), dg p.lone], [("shared" : Str), dg p.shared], [("own" : Str), dg p.own], [("through" : Str), if p.thr = true then ("yes" : Str) else ("no" : Str)]] ++
    (List.range p.n).map fun i => ([("state" : Str), dg (i + 1), dg (p.wr (i + 1)), dg (p.rd (i + 1)), dg (p.st (i + 1))] : List Str) ++ flagsL p (i + 1)
def ptext (nm : Str) (p : Pr) : Str := Txt.join "\n" ((lines nm p).map (Txt.join " "))
/-- what is a name of a protocol here -/
structure NameOk (nm : Str) : Prop where
  ne : nm.cps.toList ≠ []
  len : nm.length ≤ 12
  hd : ∃ c r, nm.cps.toList = c :: r ∧ (97 ≤ c ∧ c ≤ 122) ∧ c ≠ 114
  all : ∀ c, c ∈ nm.cps.toList → (97 ≤ c ∧ c ≤ 122) ∨ (48 ≤ c ∧ c ≤ 57)

/-! ### the accesses -/
def kdS : Kd → Str
  | .load => "load"
  | .store => "store"
  | .leave => "leave"
def accV (a : Acc) : List V := [.str (kdS a.k), .int (a.c : Nat), .int (a.w : Nat), .int (a.cov : Nat), .int a.v]
structure Acc.Ok (count words : Nat) (a : Acc) : Prop where
  c : a.c < count
  w : a.w < words
  cov : a.cov < 256
  v : 0 ≤ a.v ∧ a.v < 2 ^ 64
/-! ### what is told -/
def toldD (count words : Nat) (X : Nat → Col) : PyData :=
  .tuple [.tuple ((List.range words).map fun w => .int (X w).m), .tuple ((List.range count).map fun k => .tuple ((List.range words).map fun w => .tuple [.int ((X w).s k : Nat), .int ((X w).c k)]))]
def memD (words : Nat) (X : Nat → Col) : PyData := .tuple ((List.range words).map fun w => .int (X w).m)
/-- each cache has left the word -/
def emC (pp : Option Pr) (count : Nat) (x : Col) : Col := (List.range count).foldl (fun x k => stepC pp count ⟨.leave, k, 0, 0, 0⟩ x) x

/-! ### the program's promises -/
def sp_merge (e : En) : Sp := fun vs H Q _ => ∃ (o n : Int) (c : Nat), vs = [.int o, .int n, .int (c : Int)] ∧ (0 ≤ o ∧ o < 2 ^ 64) ∧ (0 ≤ n ∧ n < 2 ^ 64) ∧ c < 256 ∧ Q (.int (mrg o n c)) H
def sp_Caches___init__ (e : En) : Sp := fun vs H Q _ => ∃ (p dx : Addr) (pv : V) (count words : Nat) (f : Nat → Int) (ml : Addr), vs = [.ref p, pv, .int (count : Int), .ref ml] ∧ H p = some (.ins e.Caches dx []) ∧
  SqL e.K H ml (rowI words f) ∧ count ≤ 100 ∧ words ≤ 100 ∧
  ∀ (r : CR) (H' : Hp), r.p = p → CAat e H' count words r pv (fun w => ⟨fun _ => 0, fun _ => 0, f w⟩) → (∀ b, b ∈ r.dom count → b ≠ p → H b = none) → (∀ b o, H b = some o → b ≠ p → H' b = some o) → Q .non H'
def sp_Caches_others (e : En) : Sp := fun vs H Q _ => ∃ (count words : Nat) (r : CR) (pv : V) (X : Nat → Col) (c w : Nat), vs = [.ref r.p, .int (c : Int), .int (w : Int)] ∧ CAat e H count words r pv X ∧ w < words ∧ count ≤ 100 ∧
  ∀ (a : Addr) (H' : Hp), H a = none → Same H H' → H' a = some (.lst ((holders count c (X w)).map fun k : Nat => V.int (k : Int))) → Q (.ref a) H'
def sp_Caches_clean (e : En) : Sp := fun vs H Q _ => ∃ (count words : Nat) (r : CR) (pv : V) (X : Nat → Col) (hl fl : Addr) (w n : Nat) (hs : List Nat) (cl : Nat → Bool), vs = [.ref r.p, .ref hl, .int (w : Int), .ref fl] ∧
  CAat e H count words r pv X ∧ w < words ∧ H hl = some (.lst (hs.map fun k : Nat => V.int (k : Int))) ∧ H fl = some (.lst (rowB (n + 1) cl)) ∧ (∀ k, k ∈ hs → k < count ∧ (X w).s k ≤ n) ∧ hl ∉ r.dom count ∧ fl ∉ r.dom count ∧
  ∀ H', CAat e H' count words r pv (setW X w { X w with m := cleaned cl hs (X w) }) → Fr (r.dom count) H H' → Q .non H'
def sp_Caches_fetched (e : En) : Sp := fun vs H Q _ => ∃ (count words : Nat) (r : CR) (pv : V) (X : Nat → Col) (hl fl : Addr) (w n : Nat) (hs : List Nat) (gv : Nat → Bool), vs = [.ref r.p, .ref hl, .int (w : Int), .ref fl] ∧
  CAat e H count words r pv X ∧ w < words ∧ H hl = some (.lst (hs.map fun k : Nat => V.int (k : Int))) ∧ H fl = some (.lst (rowB (n + 1) gv)) ∧ (∀ k, k ∈ hs → k < count ∧ (X w).s k ≤ n) ∧
  Q (.int (fetched gv hs (X w) (X w).m)) H
def mvC (k v : Nat) (x : Col) : Col := ⟨fset x.s k v, if v = 0 then fset x.c k 0 else x.c, x.m⟩
def sp_Caches_move (e : En) : Sp := fun vs H Q _ => ∃ (count words : Nat) (r : CR) (pv : V) (X : Nat → Col) (k w v : Nat), vs = [.ref r.p, .int (k : Int), .int (w : Int), .int (v : Int)] ∧ CAat e H count words r pv X ∧ k < count ∧ w < words ∧
  ∀ H', CAat e H' count words r pv (setW X w (mvC k v (X w))) → Fr (r.dom count) H H' → Q .non H'
/-- the number of states of a protocol or none -/
abbrev pN {α : Type} (pp : Option (α × Pr)) : Nat := match pp with
  | none => 0
  | some q => q.2.n
/-- a Caches with its protocol -/
structure CPat (e : En) (H : Hp) (count words : Nat) (r : CR) (pp : Option (SR × Pr)) (pv : V) (X : Nat → Col) : Prop where
  ca : CAat e H count words r pv X
  pr : PPat e H (r.dom count) pp pv
  ok : ∀ w, (X w).Ok (pN pp)
def sp_acc (e : En) (f : CR → Nat → Nat → List V → Option (SR × Pr) → (Nat → Col) → Acc → Prop) (v : Option Pr → Nat → Acc → Col → V) (g : Option Pr → Nat → Acc → Col → Col) : Sp := fun vs H Q _ =>
  ∃ (count words : Nat) (r : CR) (pp : Option (SR × Pr)) (pv : V) (X : Nat → Col) (a : Acc), f r count words vs pp X a ∧ CPat e H count words r pp pv X ∧ a.c < count ∧ a.w < words ∧ count ≤ 100 ∧
  ∀ H', CAat e H' count words r pv (setW X a.w (g (pp.map (·.2)) count a (X a.w))) → Fr (r.dom count) H H' → Q (v (pp.map (·.2)) count a (X a.w)) H'
def sp_Caches_load (e : En) : Sp := sp_acc e (fun r count words vs pp X a => vs = [.ref r.p, .int (a.c : Int), .int (a.w : Int)] ∧ a.k = .load) stepV stepC
def sp_Caches_steal (e : En) : Sp := fun vs H Q _ => ∃ (count words : Nat) (r : CR) (sr : SR) (p : Pr) (pv : V) (X : Nat → Col) (c w : Nat), vs = [.ref r.p, .int (c : Int), .int (w : Int)] ∧ CPat e H count words r (some (sr, p)) pv X ∧ c < count ∧ w < words ∧ count ≤ 100 ∧
  ∀ H', CAat e H' count words r pv (setW X w (stealC p count c (X w))) → Fr (r.dom count) H H' → Q .non H'
def sp_Caches_store (e : En) : Sp := sp_acc e (fun r count words vs pp X a => vs = [.ref r.p, .int (a.c : Int), .int (a.w : Int), .int (a.cov : Int), .int a.v] ∧ a.k = .store ∧ a.cov < 256 ∧ (0 ≤ a.v ∧ a.v < 2 ^ 64)) stepV stepC
def sp_Caches_leave (e : En) : Sp := sp_acc e (fun r count words vs pp X a => vs = [.ref r.p, .int (a.c : Int), .int (a.w : Int)] ∧ a.k = .leave) stepV stepC
def sp_Caches_state_of (e : En) : Sp := fun vs H Q _ => ∃ (count words : Nat) (r : CR) (pv : V) (X : Nat → Col) (k w : Nat), vs = [.ref r.p, .int (k : Int), .int (w : Int)] ∧ CAat e H count words r pv X ∧ k < count ∧ w < words ∧ Q (.int ((X w).s k : Nat)) H
def sp_Caches_copy_of (e : En) : Sp := fun vs H Q _ => ∃ (count words : Nat) (r : CR) (pv : V) (X : Nat → Col) (k w : Nat), vs = [.ref r.p, .int (k : Int), .int (w : Int)] ∧ CAat e H count words r pv X ∧ k < count ∧ w < words ∧ Q (.int ((X w).c k)) H
def sp_Caches_told (e : En) : Sp := fun vs H Q _ => ∃ (count words : Nat) (r : CR) (pv : V) (X : Nat → Col), vs = [.ref r.p] ∧ CAat e H count words r pv X ∧ count ≤ 100 ∧ words ≤ 100 ∧ ∀ (a : Addr) (H' : Hp), Same H H' → Dp e.K H' (.ref a) (toldD count words X) → Q (.ref a) H'
def sp_Caches_copy (e : En) : Sp := fun vs H Q _ => ∃ (count words : Nat) (r : CR) (pv : V) (X : Nat → Col), vs = [.ref r.p] ∧ CAat e H count words r pv X ∧ count ≤ 100 ∧ words ≤ 100 ∧
  ∀ (r' : CR) (H' : Hp), Same H H' → CAat e H' count words r' pv X → (∀ b, b ∈ r'.dom count → H b = none) → Q (.ref r'.p) H'
def sp_Caches_emptied (e : En) : Sp := fun vs H Q _ => ∃ (count words : Nat) (r : CR) (pp : Option (SR × Pr)) (pv : V) (X : Nat → Col), vs = [.ref r.p] ∧ CPat e H count words r pp pv X ∧ count ≤ 100 ∧ words ≤ 100 ∧
  ∀ (a : Addr) (H' : Hp), Same H H' → Dp e.K H' (.ref a) (memD words fun w => emC (pp.map (·.2)) count (X w)) → Q (.ref a) H'

/-! ### reading the text -/
/-- the lines as split_text gives them: a list of (number, words) -/
structure SPat (H : Hp) (a : Addr) (ls : List (List Str)) (ta wa : Nat → Addr) : Prop where
  hd : H a = some (.lst (rowR ls.length ta))
  ta : ∀ i, i < ls.length → H (ta i) = some (.tup [.int ((i + 1 : Nat) : Int), .ref (wa i)])
  wa : ∀ i l, ls[i]? = some l → H (wa i) = some (.lst (l.map V.str))
/-- a text's word: not empty, no blank, no line feed, short -/
def WordOk (x : Str) : Prop := x.cps.toList ≠ [] ∧ (∀ c, c ∈ x.cps.toList → 33 ≤ c ∧ c ≤ 126) ∧ x.length ≤ 20
def LinesOk (ls : List (List Str)) : Prop := ls ≠ [] ∧ ls.length ≤ 20 ∧ ∀ l, l ∈ ls → l ≠ [] ∧ l.length ≤ 10 ∧ (∀ x, x ∈ l → WordOk x) ∧ (Txt.join " " l).length ≤ 120
def sp_split_text (e : En) : Sp := fun vs H Q _ => ∃ ls : List (List Str), vs = [.str (Txt.join "\n" (ls.map (Txt.join " ")))] ∧ LinesOk ls ∧ ∀ (a : Addr) (ta wa : Nat → Addr) (H' : Hp), Same H H' → SPat H' a ls ta wa → Q (.ref a) H'
def sp_made_of (e : En) : Sp := fun vs H Q _ => ∃ x y : Str, vs = [.str x, .str y] ∧ Q (.bl (x.cps.toList.all fun c => decide (c ∈ y.cps.toList))) H
def sp_number_of (e : En) : Sp := fun vs H Q _ => ∃ d : Nat, vs = [.str (dg d)] ∧ d < 10 ∧ Q (.int (d : Int)) H
def sp_is_name (e : En) : Sp := fun vs H Q _ => ∃ x : Str, vs = [.str x] ∧ NameOk x ∧ Q (.bl true) H
def sp_check_count (e : En) : Sp := fun vs H Q _ => ∃ (i : Int) (wl cl : Addr) (ws : List Str) (cs : List Int), vs = [.int i, .ref wl, .ref cl] ∧ H wl = some (.lst (ws.map V.str)) ∧ SqT e.K H cl (cs.map V.int) ∧ (ws.length : Int) ∈ cs ∧ Q .non H
def sp_due_line (e : En) : Sp := fun vs H Q _ => ∃ (a : Addr) (ls : List (List Str)) (ta wa : Nat → Addr) (i : Nat) (x : Str) (l : List Str) (cl : Addr) (cs : List Int), vs = [.ref a, .int (i : Int), .str x, .ref cl] ∧ SPat H a ls ta wa ∧ ls[i]? = some (x :: l) ∧
  SqT e.K H cl (cs.map V.int) ∧ ((l.length + 1 : Nat) : Int) ∈ cs ∧ ∀ (t : Addr) (H' : Hp), Same H H' → H' t = some (.tup [.int ((i + 1 : Nat) : Int), .ref (wa i)]) → Q (.ref t) H'
def sp_any_number (e : En) : Sp := fun vs H Q _ => ∃ (i : Int) (d : Nat), vs = [.int i, .str (dg d)] ∧ d < 10 ∧ Q (.int (d : Int)) H
def sp_read_number (e : En) : Sp := fun vs H Q _ => ∃ (i lo hi : Int) (d : Nat), vs = [.int i, .str (dg d), .int lo, .int hi] ∧ d < 10 ∧ lo ≤ (d : Int) ∧ (d : Int) ≤ hi ∧ Q (.int (d : Int)) H
def sp_read_name (e : En) : Sp := fun vs H Q _ => ∃ (i : Int) (x : Str), vs = [.int i, .str x] ∧ NameOk x ∧ Q (.str x) H
def sp_read_choice (e : En) : Sp := fun vs H Q _ => ∃ (i : Int) (x : Str) (cl : Addr) (cs : List Str), vs = [.int i, .str x, .ref cl] ∧ SqT e.K H cl (cs.map V.str) ∧ x ∈ cs ∧ Q (.str x) H
def sp_read_state (e : En) : Sp := fun vs H Q _ => ∃ (a : Addr) (ls : List (List Str)) (ta wa : Nat → Addr) (i : Nat) (x : Str) (d : Nat) (most : Int), vs = [.ref a, .int (i : Int), .str x, .int most] ∧ SPat H a ls ta wa ∧ ls[i]? = some [x, dg d] ∧ 1 ≤ d ∧ d < 10 ∧ (d : Int) ≤ most ∧
  ∀ H' : Hp, Same H H' → Q (.int (d : Int)) H'
def sp_read_row (e : En) : Sp := fun vs H Q _ => ∃ (a : Addr) (nm : Str) (p : Pr) (ta wa : Nat → Addr) (s : Nat), vs = [.ref a, .int ((s + 1 : Nat) : Int), .int (p.n : Int)] ∧ SPat H a (lines nm p) ta wa ∧ p.Ok ∧ s < p.n ∧
  ∀ (t fl : Addr) (H' : Hp), Same H H' → H t = none → H fl = none → H' t = some (.tup [.int (p.wr (s + 1) : Nat), .int (p.rd (s + 1) : Nat), .int (p.st (s + 1) : Nat), .ref fl]) → H' fl = some (.tup ((flagsL p (s + 1)).map V.str)) → Q (.ref t) H'
def sp_Scheme___init__ (e : En) : Sp := fun vs H Q _ => ∃ (x dx : Addr) (nm : Str) (nt rl : Addr) (p : Pr) (ta fa : Nat → Addr), vs = [.ref x, .str nm, .ref nt, .bl p.thr, .ref rl] ∧ H x = some (.ins e.Scheme dx []) ∧ p.Ok ∧
  H nt = some (.tup [.int (p.n : Nat), .int (p.lone : Nat), .int (p.shared : Nat), .int (p.own : Nat)]) ∧ H rl = some (.lst (rowR p.n ta)) ∧
  (∀ i, i < p.n → H (ta i) = some (.tup [.int (p.wr (i + 1) : Nat), .int (p.rd (i + 1) : Nat), .int (p.st (i + 1) : Nat), .ref (fa i)]) ∧ H (fa i) = some (.tup ((flagsL p (i + 1)).map V.str))) ∧
  ∀ (r : SR) (H' : Hp), r.a = x → SCat e H' r p → (∀ b, b ∈ r.dom → b ≠ x → H b = none) → (∀ b o, H b = some o → b ≠ x → H' b = some o) → Q .non H'
def sp_read_protocol (e : En) : Sp := fun vs H Q _ => ∃ (nm : Str) (p : Pr), vs = [.str (ptext nm p)] ∧ NameOk nm ∧ p.Ok ∧ ∀ (r : SR) (H' : Hp), Same H H' → SCat e H' r p → (∀ b, b ∈ r.dom → H b = none) → Q (.ref r.a) H'

/-! ### the law's promises -/
def sp_law_cell (e : En) : Sp := fun vs H Q _ => ∃ (a : Addr) (ns : List Int) (k : Nat), vs = [.ref a, .int (k : Int)] ∧ SqL e.K H a (ns.map V.int) ∧ ∀ z : Int, Q (.int z) H
def sp_law_mix (e : En) : Sp := fun vs H Q _ => ∃ i j : Int, vs = [.int i, .int j] ∧ ∀ z : Int, Q (.int z) H
def sp_law_draws (e : En) : Sp := fun vs H Q _ => ∃ (cell : Int) (count : Nat) (base : Int), vs = [.int cell, .int (count : Int), .int base] ∧ count ≤ 1000 ∧ 0 < base ∧ base < 2 ^ 100 ∧
  ∀ (a : Addr) (f : Nat → Int) (H' : Hp), H a = none → Same H H' → H' a = some (.lst (rowI count f)) → (∀ k, k < count → 0 ≤ f k ∧ f k < base) → Q (.ref a) H'
def sp_law_number (e : En) : Sp := fun vs H Q _ => ∃ i : Int, vs = [.int i] ∧ Q (.bl true) H
/-- data of at most n levels, of modest widths -/
def smd : Nat → PyData → Prop
  | 0, _ => False
  | _ + 1, .none => True
  | _ + 1, .bool _ => True
  | _ + 1, .int _ => True
  | _ + 1, .str _ => True
  | n + 1, .list ds => ds.length ≤ 1000000 ∧ ∀ d, d ∈ ds → smd n d
  | n + 1, .tuple ds => ds.length ≤ 1000000 ∧ ∀ d, d ∈ ds → smd n d
  | _ + 1, .dict _ => False
/-- told is what is due -/
def sp_same (e : En) (n : Nat) : Sp := fun vs H Q _ => ∃ (x y : V) (d : PyData), vs = [x, y] ∧ Dp e.K H x d ∧ Dp e.K H y d ∧ smd n d ∧ Q (.bl true) H
def sp_law_same (e : En) : Sp := sp_same e 10
def sp_law_merge (e : En) : Sp := sp_merge e
def sp_law_value (e : En) : Sp := fun vs H Q _ => ∃ x top : Int, vs = [.int x, .int top] ∧ 256 ≤ top ∧ top < 2 ^ 100 ∧ ∀ (z : Int) (H' : Hp), 0 ≤ z → z < top → Same H H' → Q (.int z) H'
def spText (e : En) : Sp := fun vs H Q _ => ∃ (a : Addr) (f : Nat → Int), vs = [.ref a] ∧ H a = some (.lst (rowI 21 f)) ∧ (∀ k, k < 21 → 0 ≤ f k ∧ f k < 1000) ∧
  ∀ (nm : Str) (p : Pr) (H' : Hp), NameOk nm → p.Ok → Same H H' → Q (.str (ptext nm p)) H'
def sp_law_sharing (e : En) : Sp := spText e
def sp_law_table_text (e : En) : Sp := spText e
def sp_law_table (e : En) : Sp := fun vs H Q _ => ∃ (nm : Str) (p : Pr), vs = [.str (ptext nm p)] ∧ NameOk nm ∧ p.Ok ∧ ∀ (r : TR) (H' : Hp), Same H H' → TBat H' r p → (∀ b, b ∈ r.dom p.n → H b = none) → Q (.ref r.a) H'
/-- the way of a look at the others -/
inductive Way where
  | read | steal
def Way.cl (p : Pr) : Way → Nat → Bool
  | .read => p.cr
  | .steal => p.cs
def Way.gv (p : Pr) : Way → Nat → Bool
  | .read => p.gr
  | .steal => p.gs
def Way.mv (p : Pr) : Way → Nat → Nat
  | .read => p.rd
  | .steal => p.st
def Way.args : Way → List V
  | .read => [.str "cleanread", .str "giveread", .int 1]
  | .steal => [.str "cleansteal", .str "givesteal", .int 2]
def othC (p : Pr) (w : Way) (count c : Nat) (x : Col) : Col := { moved (w.mv p) (holders count c x) x with m := cleaned (w.cl p) (holders count c x) x }
def sp_law_others (e : En) : Sp := fun vs H Q _ => ∃ (t : TR) (p : Pr) (count : Nat) (r : LR) (x : Col) (c : Nat) (w : Way), vs = [.ref t.a, .ref r.l, .int (c : Int)] ++ w.args ∧ TPat H r.dom (some (t, p)) (.ref t.a) ∧ LNat H count r x ∧ x.Ok p.n ∧ count ≤ 100 ∧
  ∀ (a : Addr) (H' : Hp), H a = none → Fr r.dom H H' → LNat H' count r (othC p w count c x) → H' a = some (.tup [.bl (decide (0 < (holders count c x).length)), .int (fetched (w.gv p) (holders count c x) x (cleaned (w.cl p) (holders count c x) x))]) → Q (.ref a) H'
def sp_lacc (e : En) (f : LR → List V → V → Acc → Prop) : Sp := fun vs H Q _ => ∃ (count : Nat) (r : LR) (pp : Option (TR × Pr)) (pv : V) (x : Col) (a : Acc), f r vs pv a ∧ TPat H r.dom pp pv ∧ LNat H count r x ∧ x.Ok (pN pp) ∧ a.c < count ∧ count ≤ 100 ∧
  ∀ H', Fr r.dom H H' → LNat H' count r (stepC (pp.map (·.2)) count a x) → Q (stepV (pp.map (·.2)) count a x) H'
def sp_law_cache_load (e : En) : Sp := sp_lacc e fun r vs pv a => vs = [pv, .ref r.l, .int (a.c : Int)] ∧ a.k = .load
def sp_law_cache_store (e : En) : Sp := sp_lacc e fun r vs pv a => vs = [pv, .ref r.l, .int (a.c : Int), .int (a.cov : Int), .int a.v] ∧ a.k = .store ∧ a.cov < 256 ∧ (0 ≤ a.v ∧ a.v < 2 ^ 64)
def sp_law_cache_leave (e : En) : Sp := sp_lacc e fun r vs pv a => vs = [pv, .ref r.l, .int (a.c : Int)] ∧ a.k = .leave
def sp_law_own (e : En) : Sp := fun vs H Q E => ∃ ta : Addr, sp_lacc e (fun r vs pv a => vs = [pv, .ref r.l, .ref ta] ∧ H ta = some (.tup (accV a)) ∧ a.cov < 256 ∧ (0 ≤ a.v ∧ a.v < 2 ^ 64)) vs H Q E
def sp_law_answer (e : En) : Sp := fun vs H Q _ => ∃ (count words : Nat) (r : CR) (pp : Option (SR × Pr)) (pv : V) (X : Nat → Col) (a : Acc) (ta : Addr) (w : Nat), vs = [.ref r.p, .ref ta, .int (w : Int)] ∧ H ta = some (.tup (accV a)) ∧ a.cov < 256 ∧ (0 ≤ a.v ∧ a.v < 2 ^ 64) ∧
  CPat e H count words r pp pv X ∧ a.c < count ∧ w < words ∧ count ≤ 100 ∧
  ∀ H', CAat e H' count words r pv (setW X w (stepC (pp.map (·.2)) count a (X w))) → Fr (r.dom count) H H' → Q (stepV (pp.map (·.2)) count a (X w)) H'
def sp_law_lines (e : En) : Sp := fun vs H Q _ => ∃ (ml : Addr) (count words : Nat) (f : Nat → Int), vs = [.ref ml, .int (count : Int)] ∧ H ml = some (.lst (rowI words f)) ∧ count ≤ 100 ∧ words ≤ 100 ∧
  ∀ (a : Addr) (lr : Nat → LR) (H' : Hp), Same H H' → LLat H' count words a lr (fun w => ⟨fun _ => 0, fun _ => 0, f w⟩) → (∀ b, b ∈ LLdom words a lr → H b = none) → Q (.ref a) H'
def sp_law_copies (e : En) : Sp := fun vs H Q _ => ∃ (a : Addr) (count words : Nat) (lr : Nat → LR) (X : Nat → Col), vs = [.ref a] ∧ LLat H count words a lr X ∧ words ≤ 100 ∧
  ∀ (a' : Addr) (lr' : Nat → LR) (H' : Hp), Same H H' → LLat H' count words a' lr' X → (∀ b, b ∈ LLdom words a' lr' → H b = none) → Q (.ref a') H'
/-- lines, wherever their list is -/
def LGat (H : Hp) (count words : Nat) (a : Addr) (lr : Nat → LR) (X : Nat → Col) : Prop := H a = some (.lst (rowR words fun w => (lr w).l)) ∧ ∀ w, w < words → LNat H count (lr w) (X w)
def sp_law_told_caches (e : En) : Sp := fun vs H Q _ => ∃ (a : Addr) (count words : Nat) (lr : Nat → LR) (X : Nat → Col), vs = [.ref a, .int (count : Int)] ∧ LGat H count words a lr X ∧ count ≤ 100 ∧ words ≤ 100 ∧
  ∀ (t : Addr) (H' : Hp), Same H H' → Dp e.K H' (.ref t) (toldD count words X) → Q (.ref t) H'
def sp_law_emptied (e : En) : Sp := fun vs H Q _ => ∃ (a : Addr) (count words : Nat) (lr : Nat → LR) (pp : Option (TR × Pr)) (pv : V) (X : Nat → Col), vs = [pv, .ref a, .int (count : Int)] ∧ LGat H count words a lr X ∧ TPat H [] pp pv ∧ (∀ w, (X w).Ok (pN pp)) ∧ count ≤ 100 ∧ words ≤ 100 ∧
  ∀ (t : Addr) (H' : Hp), Same H H' → H' t = some (.tup (rowI words fun w => (emC (pp.map (·.2)) count (X w)).m)) → Q (.ref t) H'
def sp_law_protocol (e : En) : Sp := fun vs H Q _ => ∃ cell : Int, vs = [.int cell] ∧ (∀ H', Same H H' → Q .non H') ∧ ∀ (nm : Str) (p : Pr) (H' : Hp), NameOk nm → p.Ok → Same H H' → Q (.str (ptext nm p)) H'
def sp_law_accesses (e : En) : Sp := fun vs H Q _ => ∃ (cell : Int) (many : Nat) (nl : Addr) (m : Nat) (nf : Nat → Nat) (count words : Nat), vs = [.int cell, .int (many : Int), .ref nl, .int (words : Int)] ∧ many ≤ 100 ∧ H nl = some (.lst (rowN m nf)) ∧ 0 < m ∧ (∀ i, i < m → nf i < count) ∧ 0 < words ∧ words ≤ 100 ∧
  ∀ (a : Addr) (ta : Nat → Addr) (ac : Nat → Acc) (H' : Hp), H a = none → Same H H' → H' a = some (.lst (rowR many ta)) → (∀ i, i < many → H' (ta i) = some (.tup (accV (ac i))) ∧ (ac i).Ok count words ∧ H (ta i) = none) → Q (.ref a) H'
def sp_law_stands (e : En) : Sp := fun vs H Q _ => ∃ (a : Addr) (count words : Nat) (lr : Nat → LR) (r : CR) (pv : V) (X : Nat → Col) (b : Bool), vs = [.ref r.p, .ref a, .int (count : Int), .bl b] ∧ CAat e H count words r pv X ∧ LGat H count words a lr X ∧ count ≤ 100 ∧ words ≤ 100 ∧
  ∀ H', Same H H' → Q (.bl true) H'
/-- the parts: a Caches a word -/
structure PAat (e : En) (H : Hp) (count words : Nat) (a : Addr) (pr : Nat → CR) (pp : Option (SR × Pr)) (pv : V) (X : Nat → Col) : Prop where
  hd : H a = some (.lst (rowR words fun w => (pr w).p))
  at_ : ∀ w, w < words → CPat e H count 1 (pr w) pp pv (fun _ => X w)
def sp_law_ended (e : En) : Sp := fun vs H Q _ => ∃ (count words : Nat) (r : CR) (pa la : Addr) (pr : Nat → CR) (lr : Nat → LR) (tt : Option (TR × Pr)) (tv : V) (pp : Option (SR × Pr)) (pv : V) (X : Nat → Col), vs = [tv, .ref r.p, .ref pa, .ref la, .int (count : Int)] ∧
  CPat e H count words r pp pv X ∧ PAat e H count words pa pr pp pv X ∧ LGat H count words la lr X ∧ TPat H [] tt tv ∧ tt.map (·.2) = pp.map (·.2) ∧ count ≤ 100 ∧ words ≤ 100 ∧ ∀ H', Same H H' → Q (.bl true) H'
def sp_law (e : En) : Sp := fun vs H Q _ => ∃ (a : Addr) (ns : List Int), vs = [.ref a] ∧ SqL e.K H a (ns.map V.int) ∧ ns.length ≤ 63 ∧ ∀ H', Q (.bl true) H'
end Cm
set_option maxHeartbeats 4000000
namespace Cm
open PySem PySem.Spec PyProof.Rows L2
def t_merge (e : En) : TS :=
  (tSeq (tAsg (tC (.int 0)) (gName 3))
    (tSeq (tFor (iRng1 (tCons (tBits (tVar 2)) tNil)) (gName 4)
    (tIfS (tTest (tOp rEq (tOp (rI0 fun i j => .int (Builtin.bitAnd i j)) (tOp (rI (fun _ j => 0 ≤ j) fun i j => .int (i / 2 ^ j.toNat)) (tVar 2) (tVar 4)) (tC (.int 1))) (tC (.int 1))))
    (tAsg (tOp (rI0 fun i j => .int (Builtin.bitOr i j)) (tVar 3) (tOp (rI CPow fun i j => .int (i * 2 ^ j.toNat)) (tC (.int 255)) (tOp (rI CMul fun i j => .int (i * j)) (tC (.int 8)) (tVar 4)))) (gName 3))
    tNext))
    (tRet (tOp (rI0 fun i j => .int (Builtin.bitOr i j)) (tOp (rI0 fun i j => .int (Builtin.bitAnd i j)) (tVar 0) (tUn (rU fun i => .int (Builtin.bitNot i)) (tVar 3))) (tOp (rI0 fun i j => .int (Builtin.bitAnd i j)) (tVar 1) (tVar 3))))))
def N_merge : List Str := ["old", "new", "cover", "mask", "index"]
def t_Caches___init__ (e : En) : TS :=
  (tSeq (sFld e.K (tVar 0) (tVar 1) "protocol")
    (tSeq (sFld e.K (tVar 0) (tCB (rListOf e.K) (tCons (tVar 3) tNil)) "memory")
    (tSeq (sFld e.K (tVar 0) (tLc (iRng1 (tCons (tVar 2) tNil)) (gName 4) tYes (tOp rRep (tLst (tCons (tC (.int 0)) tNil)) (tCB (rLenSeq e.K) (tCons (tVar 3) tNil))) [4]) "states")
    (sFld e.K (tVar 0) (tLc (iRng1 (tCons (tVar 2) tNil)) (gName 4) tYes (tOp rRep (tLst (tCons (tC (.int 0)) tNil)) (tCB (rLenSeq e.K) (tCons (tVar 3) tNil))) [4]) "copies"))))
def N_Caches___init__ : List Str := ["self", "protocol", "count", "memory", "cache"]
def t_Caches_others (e : En) : TS :=
  (tRet (tLc (iRng1 (tCons (tCB (rLenSeq e.K) (tCons (tFld e.K (tVar 0) "states") tNil)) tNil)) (gName 3) (tAnd (tTest (tOp rNe (tVar 3) (tVar 1))) (tTest (tOp (rI0 fun i j => .bl (decide (j < i))) (tOp (rIxL e.K) (tOp (rIxL e.K) (tFld e.K (tVar 0) "states") (tVar 3)) (tVar 2)) (tC (.int 0))))) (tVar 3) [3]))
def N_Caches_others : List Str := ["self", "c", "word", "k"]
def t_Caches_clean (e : En) : TS :=
  (tFor (iList e.K (tVar 1)) (gName 4)
    (tIfS (tB (tOp (rIxL e.K) (tVar 3) (tOp (rIxL e.K) (tOp (rIxL e.K) (tFld e.K (tVar 0) "states") (tVar 4)) (tVar 2))))
    (tAsg (tOp (rIxL e.K) (tOp (rIxL e.K) (tFld e.K (tVar 0) "copies") (tVar 4)) (tVar 2)) (gSub (tFld e.K (tVar 0) "memory") (tVar 2) rSetL))
    tNext))
def N_Caches_clean : List Str := ["self", "holders", "word", "cleaning", "k"]
def t_Caches_fetched (e : En) : TS :=
  (tSeq (tFor (iList e.K (tVar 1)) (gName 4)
    (tIfS (tB (tOp (rIxL e.K) (tVar 3) (tOp (rIxL e.K) (tOp (rIxL e.K) (tFld e.K (tVar 0) "states") (tVar 4)) (tVar 2))))
    (tRet (tOp (rIxL e.K) (tOp (rIxL e.K) (tFld e.K (tVar 0) "copies") (tVar 4)) (tVar 2)))
    tNext))
    (tRet (tOp (rIxL e.K) (tFld e.K (tVar 0) "memory") (tVar 2))))
def N_Caches_fetched : List Str := ["self", "holders", "word", "giving", "k"]
def t_Caches_move (e : En) : TS :=
  (tSeq (tAsg (tVar 3) (gSub (tOp (rIxL e.K) (tFld e.K (tVar 0) "states") (tVar 1)) (tVar 2) rSetL))
    (tIfS (tTest (tOp rEq (tVar 3) (tC (.int 0))))
    (tAsg (tC (.int 0)) (gSub (tOp (rIxL e.K) (tFld e.K (tVar 0) "copies") (tVar 1)) (tVar 2) rSetL))
    tNext))
def N_Caches_move : List Str := ["self", "c", "word", "state"]
def t_Caches_load (e : En) : TS :=
  (tSeq (tAsg (tFld e.K (tVar 0) "protocol") (gName 3))
    (tSeq (tIfS (tTest (tOp rIsN (tVar 3) (tC .non)))
    (tRet (tOp (rIxL e.K) (tFld e.K (tVar 0) "memory") (tVar 2)))
    tNext)
    (tSeq (tIfS (tTest (tOp (rI0 fun i j => .bl (decide (j < i))) (tOp (rIxL e.K) (tOp (rIxL e.K) (tFld e.K (tVar 0) "states") (tVar 1)) (tVar 2)) (tC (.int 0))))
    (tRet (tOp (rIxL e.K) (tOp (rIxL e.K) (tFld e.K (tVar 0) "copies") (tVar 1)) (tVar 2)))
    tNext)
    (tSeq (tAsg (tMeth e.Caches "others" (sp_Caches_others e) [] C8.E0 (tVar 0) (tCons (tVar 1) (tCons (tVar 2) tNil))) (gName 4))
    (tSeq (tDrop (tMeth e.Caches "clean" (sp_Caches_clean e) [] C8.E0 (tVar 0) (tCons (tVar 4) (tCons (tVar 2) (tCons (tFld e.K (tVar 3) "cleanread") tNil)))))
    (tSeq (tAsg (tMeth e.Caches "fetched" (sp_Caches_fetched e) [] C8.E0 (tVar 0) (tCons (tVar 4) (tCons (tVar 2) (tCons (tFld e.K (tVar 3) "giveread") tNil)))) (gName 5))
    (tSeq (tFor (iList e.K (tVar 4)) (gName 6)
    (tDrop (tMeth e.Caches "move" (sp_Caches_move e) [] C8.E0 (tVar 0) (tCons (tVar 6) (tCons (tVar 2) (tCons (tOp (rIxL e.K) (tFld e.K (tVar 3) "onread") (tOp (rIxL e.K) (tOp (rIxL e.K) (tFld e.K (tVar 0) "states") (tVar 6)) (tVar 2))) tNil))))))
    (tSeq (tAsg (tIf (tTest (tOp (rI0 fun i j => .bl (decide (j < i))) (tCB (rLenSeq e.K) (tCons (tVar 4) tNil)) (tC (.int 0)))) (tFld e.K (tVar 3) "shared") (tFld e.K (tVar 3) "lone")) (gSub (tOp (rIxL e.K) (tFld e.K (tVar 0) "states") (tVar 1)) (tVar 2) rSetL))
    (tSeq (tAsg (tVar 5) (gSub (tOp (rIxL e.K) (tFld e.K (tVar 0) "copies") (tVar 1)) (tVar 2) rSetL))
    (tRet (tVar 5)))))))))))
def N_Caches_load : List Str := ["self", "c", "word", "scheme", "holders", "value", "k"]
def t_Caches_steal (e : En) : TS :=
  (tSeq (tAsg (tFld e.K (tVar 0) "protocol") (gName 3))
    (tSeq (tAsg (tMeth e.Caches "others" (sp_Caches_others e) [] C8.E0 (tVar 0) (tCons (tVar 1) (tCons (tVar 2) tNil))) (gName 4))
    (tSeq (tDrop (tMeth e.Caches "clean" (sp_Caches_clean e) [] C8.E0 (tVar 0) (tCons (tVar 4) (tCons (tVar 2) (tCons (tFld e.K (tVar 3) "cleansteal") tNil)))))
    (tSeq (tIfS (tTest (tOp rEq (tOp (rIxL e.K) (tOp (rIxL e.K) (tFld e.K (tVar 0) "states") (tVar 1)) (tVar 2)) (tC (.int 0))))
    (tAsg (tMeth e.Caches "fetched" (sp_Caches_fetched e) [] C8.E0 (tVar 0) (tCons (tVar 4) (tCons (tVar 2) (tCons (tFld e.K (tVar 3) "givesteal") tNil)))) (gSub (tOp (rIxL e.K) (tFld e.K (tVar 0) "copies") (tVar 1)) (tVar 2) rSetL))
    tNext)
    (tSeq (tFor (iList e.K (tVar 4)) (gName 5)
    (tDrop (tMeth e.Caches "move" (sp_Caches_move e) [] C8.E0 (tVar 0) (tCons (tVar 5) (tCons (tVar 2) (tCons (tOp (rIxL e.K) (tFld e.K (tVar 3) "onsteal") (tOp (rIxL e.K) (tOp (rIxL e.K) (tFld e.K (tVar 0) "states") (tVar 5)) (tVar 2))) tNil))))))
    (tAsg (tFld e.K (tVar 3) "own") (gSub (tOp (rIxL e.K) (tFld e.K (tVar 0) "states") (tVar 1)) (tVar 2) rSetL)))))))
def N_Caches_steal : List Str := ["self", "c", "word", "scheme", "holders", "k"]
def t_Caches_store (e : En) : TS :=
  (tSeq (tAsg (tFld e.K (tVar 0) "protocol") (gName 5))
    (tSeq (tIfS (tTest (tOp rIsN (tVar 5) (tC .non)))
    (tSeq (tAsg (tOp (rIxL e.K) (tFld e.K (tVar 0) "memory") (tVar 2)) (gName 6))
    (tSeq (tAsg (tCall (sp_merge e) [] C8.E0 (tCons (tVar 6) (tCons (tVar 4) (tCons (tVar 3) tNil)))) (gSub (tFld e.K (tVar 0) "memory") (tVar 2) rSetL))
    (tRet (tVar 6))))
    tNext)
    (tSeq (tAsg (tOp (rIxL e.K) (tOp (rIxL e.K) (tFld e.K (tVar 0) "states") (tVar 1)) (tVar 2)) (gName 7))
    (tSeq (tIfS (tTest (tOp (rI0 fun i j => .bl (decide (j < i))) (tOp (rIxL e.K) (tFld e.K (tVar 5) "write") (tVar 7)) (tC (.int 0))))
    (tAsg (tOp (rIxL e.K) (tFld e.K (tVar 5) "write") (tVar 7)) (gSub (tOp (rIxL e.K) (tFld e.K (tVar 0) "states") (tVar 1)) (tVar 2) rSetL))
    (tDrop (tMeth e.Caches "steal" (sp_Caches_steal e) [] C8.E0 (tVar 0) (tCons (tVar 1) (tCons (tVar 2) tNil)))))
    (tSeq (tAsg (tOp (rIxL e.K) (tOp (rIxL e.K) (tFld e.K (tVar 0) "copies") (tVar 1)) (tVar 2)) (gName 6))
    (tSeq (tAsg (tCall (sp_merge e) [] C8.E0 (tCons (tVar 6) (tCons (tVar 4) (tCons (tVar 3) tNil)))) (gSub (tOp (rIxL e.K) (tFld e.K (tVar 0) "copies") (tVar 1)) (tVar 2) rSetL))
    (tSeq (tIfS (tB (tFld e.K (tVar 5) "through"))
    (tAsg (tOp (rIxL e.K) (tOp (rIxL e.K) (tFld e.K (tVar 0) "copies") (tVar 1)) (tVar 2)) (gSub (tFld e.K (tVar 0) "memory") (tVar 2) rSetL))
    tNext)
    (tRet (tVar 6)))))))))
def N_Caches_store : List Str := ["self", "c", "word", "cover", "laid", "scheme", "old", "state"]
def t_Caches_leave (e : En) : TS :=
  (tSeq (tAsg (tOp (rIxL e.K) (tOp (rIxL e.K) (tFld e.K (tVar 0) "states") (tVar 1)) (tVar 2)) (gName 3))
    (tIfS (tTest (tOp (rI0 fun i j => .bl (decide (j < i))) (tVar 3) (tC (.int 0))))
    (tSeq (tIfS (tB (tOp (rIxL e.K) (tFld e.K (tFld e.K (tVar 0) "protocol") "writeback") (tVar 3)))
    (tAsg (tOp (rIxL e.K) (tOp (rIxL e.K) (tFld e.K (tVar 0) "copies") (tVar 1)) (tVar 2)) (gSub (tFld e.K (tVar 0) "memory") (tVar 2) rSetL))
    tNext)
    (tDrop (tMeth e.Caches "move" (sp_Caches_move e) [] C8.E0 (tVar 0) (tCons (tVar 1) (tCons (tVar 2) (tCons (tC (.int 0)) tNil))))))
    tNext))
def N_Caches_leave : List Str := ["self", "c", "word", "state"]
def t_Caches_state_of (e : En) : TS :=
  (tRet (tOp (rIxL e.K) (tOp (rIxL e.K) (tFld e.K (tVar 0) "states") (tVar 1)) (tVar 2)))
def N_Caches_state_of : List Str := ["self", "c", "word"]
def t_Caches_copy_of (e : En) : TS :=
  (tRet (tOp (rIxL e.K) (tOp (rIxL e.K) (tFld e.K (tVar 0) "copies") (tVar 1)) (tVar 2)))
def N_Caches_copy_of : List Str := ["self", "c", "word"]
def t_Caches_told (e : En) : TS :=
  (tSeq (tAsg (tCB rRng1 (tCons (tCB (rLenSeq e.K) (tCons (tFld e.K (tVar 0) "memory") tNil)) tNil)) (gName 1))
    (tSeq (tAsg (tLst tNil) (gName 2))
    (tSeq (tFor (iRng1 (tCons (tCB (rLenSeq e.K) (tCons (tFld e.K (tVar 0) "states") tNil)) tNil)) (gName 3)
    (tDrop (tBM e.K "list" rAppend (tVar 2) (tCons (tCB (rTupOf e.K) (tCons (tLc (iRngV (tVar 1)) (gName 4) tYes (tTup (tCons (tOp (rIxL e.K) (tOp (rIxL e.K) (tFld e.K (tVar 0) "states") (tVar 3)) (tVar 4)) (tCons (tOp (rIxL e.K) (tOp (rIxL e.K) (tFld e.K (tVar 0) "copies") (tVar 3)) (tVar 4)) tNil))) [4]) tNil)) tNil))))
    (tRet (tTup (tCons (tCB (rTupOf e.K) (tCons (tFld e.K (tVar 0) "memory") tNil)) (tCons (tCB (rTupOf e.K) (tCons (tVar 2) tNil)) tNil)))))))
def N_Caches_told : List Str := ["self", "words", "caches", "c", "word"]
def t_Caches_emptied (e : En) : TS :=
  (tSeq (tAsg (tMeth e.Caches "copy" (sp_Caches_copy e) [] C8.E0 (tVar 0) tNil) (gName 1))
    (tSeq (tFor (iRng1 (tCons (tCB (rLenSeq e.K) (tCons (tFld e.K (tVar 0) "states") tNil)) tNil)) (gName 2)
    (tFor (iRng1 (tCons (tCB (rLenSeq e.K) (tCons (tFld e.K (tVar 0) "memory") tNil)) tNil)) (gName 3)
    (tDrop (tMeth e.Caches "leave" (sp_Caches_leave e) [] C8.E0 (tVar 1) (tCons (tVar 2) (tCons (tVar 3) tNil))))))
    (tRet (tCB (rTupOf e.K) (tCons (tFld e.K (tVar 1) "memory") tNil)))))
def N_Caches_emptied : List Str := ["self", "other", "c", "word"]
def t_Caches_copy (e : En) : TS :=
  (tSeq (tAsg (tMake e.Caches (sp_Caches___init__ e) [] C8.E0 (tCons (tFld e.K (tVar 0) "protocol") (tCons (tCB (rLenSeq e.K) (tCons (tFld e.K (tVar 0) "states") tNil)) (tCons (tFld e.K (tVar 0) "memory") tNil)))) (gName 1))
    (tSeq (sFld e.K (tVar 1) (tLc (iList e.K (tFld e.K (tVar 0) "states")) (gName 2) tYes (tCB (rListOf e.K) (tCons (tVar 2) tNil)) [2]) "states")
    (tSeq (sFld e.K (tVar 1) (tLc (iList e.K (tFld e.K (tVar 0) "copies")) (gName 3) tYes (tCB (rListOf e.K) (tCons (tVar 3) tNil)) [3]) "copies")
    (tRet (tVar 1)))))
def N_Caches_copy : List Str := ["self", "other", "states", "copies"]
def t_split_text (e : En) : TS :=
  (tSeq (tAsg (tLst tNil) (gName 1))
    (tSeq (tFor (iEnumK e.K (tCons (tSplit (tVar 0) (tC (.str "\n"))) tNil) (tC (.int 1))) (gTup e.K 2 (gCons (gName 2) (gCons (gName 3) gNil)))
    (tSeq (tIfS (tOr (tTest (tOp (rI0 fun i j => .bl (decide (j < i))) (tVar 2) (tC (.int 4000)))) (tTest (tOp (rI0 fun i j => .bl (decide (j < i))) (tCB rLenStr (tCons (tVar 3) tNil)) (tC (.int 120)))))
    tNever
    tNext)
    (tSeq (tAsg (tLc (iList e.K (tSplit (tVar 3) (tC (.str " ")))) (gName 5) (tTest (tOp rNe (tVar 5) (tC (.str "")))) (tVar 5) [5]) (gName 4))
    (tIfS (tTest (tOp (rNeD e.K) (tVar 4) (tLst tNil)))
    (tDrop (tBM e.K "list" rAppend (tVar 1) (tCons (tTup (tCons (tVar 2) (tCons (tVar 4) tNil))) tNil)))
    tNext))))
    (tRet (tVar 1))))
def N_split_text : List Str := ["text", "found", "line", "row", "words", "word"]
def t_made_of (e : En) : TS :=
  (tSeq (tFor (iStr (tVar 0)) (gName 2)
    (tIfS (tTest (tOp rNotInS (tVar 2) (tVar 1)))
    (tRet (tC (.bl false)))
    tNext))
    (tRet (tC (.bl true))))
def N_made_of : List Str := ["word", "signs", "sign"]
def t_number_of (e : En) : TS :=
  (tSeq (tIfS (tOr (tTest (tOp rEq (tVar 0) (tC (.str "")))) (tNot (tB (tCall (sp_made_of e) [] C8.E0 (tCons (tVar 0) (tCons (tC (.str "0123456789")) tNil))))))
    (tRet (tC .non))
    tNext)
    (tSeq (tIfS (tAnd (tTest (tOp rEq (tOp rIxS (tVar 0) (tC (.int 0))) (tC (.str "0")))) (tTest (tOp (rI0 fun i j => .bl (decide (j < i))) (tCB rLenStr (tCons (tVar 0) tNil)) (tC (.int 1)))))
    (tRet (tC .non))
    tNext)
    (tRet (tCB rIntStr (tCons (tVar 0) tNil)))))
def N_number_of : List Str := ["word"]
def t_is_name (e : En) : TS :=
  (tSeq (tIfS (tOr (tTest (tOp rEq (tVar 0) (tC (.str "")))) (tOr (tTest (tOp (rI0 fun i j => .bl (decide (j < i))) (tCB rLenStr (tCons (tVar 0) tNil)) (tC (.int 12)))) (tTest (tOp rNotInS (tOp rIxS (tVar 0) (tC (.int 0))) (tC (.str "abcdefghijklmnopqrstuvwxyz"))))))
    (tRet (tC (.bl false)))
    tNext)
    (tSeq (tIfS (tNot (tB (tCall (sp_made_of e) [] C8.E0 (tCons (tVar 0) (tCons (tOp rAddStr (tC (.str "abcdefghijklmnopqrstuvwxyz")) (tC (.str "0123456789"))) tNil)))))
    (tRet (tC (.bl false)))
    tNext)
    (tRet (tOrV (tOp rEq (tVar 0) (tC (.str "r"))) (tOrV (tOp rNe (tOp rIxS (tVar 0) (tC (.int 0))) (tC (.str "r"))) (tNotV (tCall (sp_made_of e) [] C8.E0 (tCons (tSl C8.rSlX (tVar 0) (tPart (tC (.int 1))) tNoPart) (tCons (tC (.str "0123456789")) tNil)))))))))
def N_is_name : List Str := ["word"]
def t_check_count (e : En) : TS :=
  (tIfS (tTest (tOp (rIn e.K true) (tCB (rLenSeq e.K) (tCons (tVar 1) tNil)) (tVar 2)))
    tNever
    tNext)
def N_check_count : List Str := ["line", "words", "counts"]
def t_due_line (e : En) : TS :=
  (tSeq (tIfS (tTest (tOp (rI0 fun i j => .bl (decide (j ≤ i))) (tVar 1) (tCB (rLenSeq e.K) (tCons (tVar 0) tNil))))
    tNever
    tNext)
    (tSeq (tAsg (tOp (rIxL e.K) (tVar 0) (tVar 1)) (gTup e.K 2 (gCons (gName 4) (gCons (gName 5) gNil))))
    (tSeq (tIfS (tTest (tOp rNe (tOp (rIxL e.K) (tVar 5) (tC (.int 0))) (tVar 2)))
    tNever
    tNext)
    (tSeq (tDrop (tCall (sp_check_count e) [] C8.E0 (tCons (tVar 4) (tCons (tVar 5) (tCons (tVar 3) tNil)))))
    (tRet (tTup (tCons (tVar 4) (tCons (tVar 5) tNil))))))))
def N_due_line : List Str := ["lines", "index", "first", "counts", "line", "words"]
def t_any_number (e : En) : TS :=
  (tSeq (tAsg (tCall (sp_number_of e) [] C8.E0 (tCons (tVar 1) tNil)) (gName 2))
    (tSeq (tIfS (tTest (tOp rIsN (tVar 2) (tC .non)))
    tNever
    tNext)
    (tRet (tVar 2))))
def N_any_number : List Str := ["line", "word", "number"]
def t_read_number (e : En) : TS :=
  (tSeq (tAsg (tCall (sp_any_number e) [] C8.E0 (tCons (tVar 0) (tCons (tVar 1) tNil))) (gName 4))
    (tSeq (tIfS (tNot (tTest (tChain (rI0 fun i j => .bl (decide (i ≤ j))) (rI0 fun i j => .bl (decide (i ≤ j))) (tVar 2) (tVar 4) (tVar 3))))
    tNever
    tNext)
    (tRet (tVar 4))))
def N_read_number : List Str := ["line", "word", "least", "most", "number"]
def t_read_name (e : En) : TS :=
  (tSeq (tIfS (tNot (tB (tCall (sp_is_name e) [] C8.E0 (tCons (tVar 1) tNil))))
    tNever
    tNext)
    (tRet (tVar 1)))
def N_read_name : List Str := ["line", "word"]
def t_read_choice (e : En) : TS :=
  (tSeq (tIfS (tTest (tOp (rIn e.K true) (tVar 1) (tVar 2)))
    tNever
    tNext)
    (tRet (tVar 1)))
def N_read_choice : List Str := ["line", "word", "choices"]
def t_Scheme___init__ (e : En) : TS :=
  (tSeq (sFld e.K (tVar 0) (tVar 1) "name")
    (tSeq (tAsg (tVar 2) (gTup e.K 4 (gCons (gFld e.K (tVar 0) "states") (gCons (gFld e.K (tVar 0) "lone") (gCons (gFld e.K (tVar 0) "shared") (gCons (gFld e.K (tVar 0) "own") gNil))))))
    (tSeq (sFld e.K (tVar 0) (tVar 3) "through")
    (tSeq (sFld e.K (tVar 0) (tOp rCat (tLst (tCons (tC (.int 0)) tNil)) (tLc (iList e.K (tVar 4)) (gName 5) tYes (tOp (rIxT e.K) (tVar 5) (tC (.int 0))) [5])) "write")
    (tSeq (sFld e.K (tVar 0) (tOp rCat (tLst (tCons (tC (.int 0)) tNil)) (tLc (iList e.K (tVar 4)) (gName 5) tYes (tOp (rIxT e.K) (tVar 5) (tC (.int 1))) [5])) "onread")
    (tSeq (sFld e.K (tVar 0) (tOp rCat (tLst (tCons (tC (.int 0)) tNil)) (tLc (iList e.K (tVar 4)) (gName 5) tYes (tOp (rIxT e.K) (tVar 5) (tC (.int 2))) [5])) "onsteal")
    (tSeq (sFld e.K (tVar 0) (tOp rCat (tLst (tCons (tC (.bl false)) tNil)) (tLc (iList e.K (tVar 4)) (gName 5) tYes (tOp (rIn e.K false) (tC (.str "giveread")) (tOp (rIxT e.K) (tVar 5) (tC (.int 3)))) [5])) "giveread")
    (tSeq (sFld e.K (tVar 0) (tOp rCat (tLst (tCons (tC (.bl false)) tNil)) (tLc (iList e.K (tVar 4)) (gName 5) tYes (tOp (rIn e.K false) (tC (.str "cleanread")) (tOp (rIxT e.K) (tVar 5) (tC (.int 3)))) [5])) "cleanread")
    (tSeq (sFld e.K (tVar 0) (tOp rCat (tLst (tCons (tC (.bl false)) tNil)) (tLc (iList e.K (tVar 4)) (gName 5) tYes (tOp (rIn e.K false) (tC (.str "givesteal")) (tOp (rIxT e.K) (tVar 5) (tC (.int 3)))) [5])) "givesteal")
    (tSeq (sFld e.K (tVar 0) (tOp rCat (tLst (tCons (tC (.bl false)) tNil)) (tLc (iList e.K (tVar 4)) (gName 5) tYes (tOp (rIn e.K false) (tC (.str "cleansteal")) (tOp (rIxT e.K) (tVar 5) (tC (.int 3)))) [5])) "cleansteal")
    (sFld e.K (tVar 0) (tOp rCat (tLst (tCons (tC (.bl false)) tNil)) (tLc (iList e.K (tVar 4)) (gName 5) tYes (tOp (rIn e.K false) (tC (.str "back")) (tOp (rIxT e.K) (tVar 5) (tC (.int 3)))) [5])) "writeback")))))))))))
def N_Scheme___init__ : List Str := ["self", "name", "numbers", "through", "rows", "row"]
def t_read_protocol (e : En) : TS :=
  (tSeq (tAsg (tCall (sp_split_text e) [] C8.E0 (tCons (tVar 0) tNil)) (gName 1))
    (tSeq (tAsg (tCall (sp_due_line e) [] C8.E0 (tCons (tVar 1) (tCons (tC (.int 0)) (tCons (tC (.str "protocol")) (tCons (tTup (tCons (tC (.int 2)) tNil)) tNil))))) (gTup e.K 2 (gCons (gName 2) (gCons (gName 3) gNil))))
    (tSeq (tAsg (tCall (sp_read_name e) [] C8.E0 (tCons (tVar 2) (tCons (tOp (rIxL e.K) (tVar 3) (tC (.int 1))) tNil))) (gName 4))
    (tSeq (tAsg (tCall (sp_read_state e) [] C8.E0 (tCons (tVar 1) (tCons (tC (.int 1)) (tCons (tC (.str "states")) (tCons (tC (.int 4)) tNil))))) (gName 5))
    (tSeq (tAsg (tCall (sp_read_state e) [] C8.E0 (tCons (tVar 1) (tCons (tC (.int 2)) (tCons (tC (.str "lone")) (tCons (tVar 5) tNil))))) (gName 6))
    (tSeq (tAsg (tCall (sp_read_state e) [] C8.E0 (tCons (tVar 1) (tCons (tC (.int 3)) (tCons (tC (.str "shared")) (tCons (tVar 5) tNil))))) (gName 7))
    (tSeq (tAsg (tCall (sp_read_state e) [] C8.E0 (tCons (tVar 1) (tCons (tC (.int 4)) (tCons (tC (.str "own")) (tCons (tVar 5) tNil))))) (gName 8))
    (tSeq (tAsg (tCall (sp_due_line e) [] C8.E0 (tCons (tVar 1) (tCons (tC (.int 5)) (tCons (tC (.str "through")) (tCons (tTup (tCons (tC (.int 2)) tNil)) tNil))))) (gTup e.K 2 (gCons (gName 2) (gCons (gName 3) gNil))))
    (tSeq (tAsg (tOp rEq (tCall (sp_read_choice e) [] C8.E0 (tCons (tVar 2) (tCons (tOp (rIxL e.K) (tVar 3) (tC (.int 1))) (tCons (tTup (tCons (tC (.str "yes")) (tCons (tC (.str "no")) tNil))) tNil)))) (tC (.str "yes"))) (gName 9))
    (tSeq (tAsg (tLc (iRng2 (tCons (tC (.int 1)) (tCons (tOp (rI0 fun i j => .int (i + j)) (tVar 5) (tC (.int 1))) tNil))) (gName 11) tYes (tCall (sp_read_row e) [] C8.E0 (tCons (tVar 1) (tCons (tVar 11) (tCons (tVar 5) tNil)))) [11]) (gName 10))
    (tSeq (tIfS (tTest (tOp (rI0 fun i j => .bl (decide (j < i))) (tCB (rLenSeq e.K) (tCons (tVar 1) tNil)) (tOp (rI0 fun i j => .int (i + j)) (tC (.int 6)) (tVar 5))))
    tNever
    tNext)
    (tRet (tMake e.Scheme (sp_Scheme___init__ e) [] C8.E0 (tCons (tVar 4) (tCons (tTup (tCons (tVar 5) (tCons (tVar 6) (tCons (tVar 7) (tCons (tVar 8) tNil))))) (tCons (tVar 9) (tCons (tVar 10) tNil)))))))))))))))))
def N_read_protocol : List Str := ["text", "lines", "line", "words", "name", "states", "lone", "shared", "own", "through", "rows", "state"]
def t_read_state (e : En) : TS :=
  (tSeq (tAsg (tCall (sp_due_line e) [] C8.E0 (tCons (tVar 0) (tCons (tVar 1) (tCons (tVar 2) (tCons (tTup (tCons (tC (.int 2)) tNil)) tNil))))) (gTup e.K 2 (gCons (gName 4) (gCons (gName 5) gNil))))
    (tRet (tCall (sp_read_number e) [] C8.E0 (tCons (tVar 4) (tCons (tOp (rIxL e.K) (tVar 5) (tC (.int 1))) (tCons (tC (.int 1)) (tCons (tVar 3) tNil)))))))
def N_read_state : List Str := ["lines", "index", "first", "most", "line", "words"]
def t_read_row (e : En) : TS :=
  (tSeq (tAsg (tCall (sp_due_line e) [] C8.E0 (tCons (tVar 0) (tCons (tOp (rI0 fun i j => .int (i - j)) (tOp (rI0 fun i j => .int (i + j)) (tC (.int 6)) (tVar 1)) (tC (.int 1))) (tCons (tC (.str "state")) (tCons (tC (.ref e.STATE_COUNTS)) tNil))))) (gTup e.K 2 (gCons (gName 3) (gCons (gName 4) gNil))))
    (tSeq (tDrop (tCall (sp_read_number e) [] C8.E0 (tCons (tVar 3) (tCons (tOp (rIxL e.K) (tVar 4) (tC (.int 1))) (tCons (tVar 1) (tCons (tVar 1) tNil))))))
    (tSeq (tAsg (tLc (iList e.K (tSl (rSlL e.K) (tVar 4) (tPart (tC (.int 2))) (tPart (tC (.int 5))))) (gName 9) tYes (tCall (sp_read_number e) [] C8.E0 (tCons (tVar 3) (tCons (tVar 9) (tCons (tC (.int 0)) (tCons (tVar 2) tNil))))) [9]) (gUnl e.K 3 (gCons (gName 5) (gCons (gName 6) (gCons (gName 7) gNil)))))
    (tSeq (tAsg (tLst tNil) (gName 8))
    (tSeq (tFor (iList e.K (tSl (rSlL e.K) (tVar 4) (tPart (tC (.int 5))) tNoPart)) (gName 9)
    (tSeq (tAsg (tCall (sp_read_choice e) [] C8.E0 (tCons (tVar 3) (tCons (tVar 9) (tCons (tC (.ref e.FLAGS)) tNil)))) (gName 10))
    (tSeq (tIfS (tTest (tOp (rIn e.K false) (tVar 10) (tVar 8)))
    tNever
    tNext)
    (tDrop (tBM e.K "list" rAppend (tVar 8) (tCons (tVar 10) tNil))))))
    (tSeq (tIfS (tTest (tOp (rNeD e.K) (tVar 8) (tLc (iTup e.K (tC (.ref e.FLAGS))) (gName 10) (tTest (tOp (rIn e.K false) (tVar 10) (tVar 8))) (tVar 10) [10])))
    tNever
    tNext)
    (tRet (tTup (tCons (tVar 5) (tCons (tVar 6) (tCons (tVar 7) (tCons (tCB (rTupOf e.K) (tCons (tVar 8) tNil)) tNil))))))))))))
def N_read_row : List Str := ["lines", "state", "states", "line", "words", "write", "onread", "onsteal", "flags", "word", "flag"]
def t_law_cell (e : En) : TS :=
  (tSeq (tAsg (tC (.int 0)) (gName 2))
    (tSeq (tIfS (tAnd (tTest (tOp (rI0 fun i j => .bl (decide (i < j))) (tVar 1) (tCB (rLenSeq e.K) (tCons (tVar 0) tNil)))) (tTest (tOp (rI0 fun i j => .bl (decide (i < j))) (tVar 1) (tC (.int 63)))))
    (tAsg (tCB rAbs (tCons (tCB rInt1 (tCons (tOp (rIxL e.K) (tVar 0) (tVar 1)) tNil)) tNil)) (gName 2))
    (tIfS (tTest (tOp (rI0 fun i j => .bl (decide (j < i))) (tCB (rLenSeq e.K) (tCons (tVar 0) tNil)) (tC (.int 0))))
    (tAsg (tOp (rI0 fun i j => .int (i + j)) (tOp (rI (fun _ j => 0 < j) fun i j => .int (i % j)) (tCB rInt1 (tCons (tCB rAbs (tCons (tCB rInt1 (tCons (tOp (rIxL e.K) (tVar 0) (tC (.int 0))) tNil)) tNil)) tNil)) (tC (.int 1000003))) (tOp (rI CMul fun i j => .int (i * j)) (tC (.int 1009)) (tOp (rI (fun _ j => 0 < j) fun i j => .int (i % j)) (tCB (rLenSeq e.K) (tCons (tVar 0) tNil)) (tC (.int 64))))) (gName 2))
    tNext))
    (tSeq (tIfS (tTest (tOp (rI0 fun i j => .bl (decide (j ≤ i))) (tVar 2) (tOp (rI CPow fun i j => .int (i ^ j.toNat)) (tC (.int 10)) (tC (.int 18)))))
    (tRet (tVar 2))
    tNext)
    (tRet (tOp (rI0 fun i j => .int (i + j)) (tOp (rI CMul fun i j => .int (i * j)) (tVar 2) (tC (.int 64))) (tVar 1))))))
def N_law_cell : List Str := ["script", "k", "cell"]
def t_law_mix (e : En) : TS :=
  (tSeq (tAsg (tOp (rI (fun _ j => 0 < j) fun i j => .int (i % j)) (tCB rInt1 (tCons (tOp (rI0 fun i j => .int (i + j)) (tOp (rI0 fun i j => .int (i + j)) (tOp (rI CMul fun i j => .int (i * j)) (tVar 0) (tC (.int 48271))) (tOp (rI CMul fun i j => .int (i * j)) (tVar 1) (tC (.int 69621)))) (tC (.int 11))) tNil)) (tC (.int 2147483647))) (gName 2))
    (tSeq (tAsg (tOp (rI (fun _ j => 0 < j) fun i j => .int (i % j)) (tCB rInt1 (tCons (tOp (rI0 fun i j => .int (i + j)) (tOp (rI0 fun i j => .int (i + j)) (tOp (rI CMul fun i j => .int (i * j)) (tVar 2) (tVar 2)) (tOp (rI CMul fun i j => .int (i * j)) (tVar 1) (tC (.int 7919)))) (tC (.int 3))) tNil)) (tC (.int 2147483629))) (gName 2))
    (tSeq (tAsg (tOp (rI (fun _ j => 0 < j) fun i j => .int (i % j)) (tCB rInt1 (tCons (tOp (rI0 fun i j => .int (i + j)) (tOp (rI0 fun i j => .int (i + j)) (tOp (rI CMul fun i j => .int (i * j)) (tVar 2) (tVar 2)) (tOp (rI CDiv fun i j => .int (i / j)) (tVar 2) (tC (.int 7)))) (tVar 1)) tNil)) (tC (.int 2147483587))) (gName 2))
    (tRet (tOp (rI CDiv fun i j => .int (i / j)) (tVar 2) (tC (.int 3)))))))
def N_law_mix : List Str := ["cell", "k", "x"]
def t_law_draws (e : En) : TS :=
  (tSeq (tAsg (tVar 0) (gName 3))
    (tSeq (tAsg (tOp (rI (fun _ j => 0 < j) fun i j => .int (i % j)) (tCB rInt1 (tCons (tVar 0) tNil)) (tC (.int 1000000007))) (gName 4))
    (tSeq (tAsg (tLst tNil) (gName 5))
    (tSeq (tFor (iRng1 (tCons (tVar 1) tNil)) (gName 6)
    (tIfS (tAnd (tTest (tOp (rI0 fun i j => .bl (decide (j ≤ i))) (tVar 0) (tOp (rI CPow fun i j => .int (i ^ j.toNat)) (tC (.int 10)) (tC (.int 18))))) (tTest (tOp (rI0 fun i j => .bl (decide (j < i))) (tVar 3) (tC (.int 0)))))
    (tSeq (tDrop (tBM e.K "list" rAppend (tVar 5) (tCons (tOp (rI (fun _ j => 0 < j) fun i j => .int (i % j)) (tCB rInt1 (tCons (tVar 3) tNil)) (tVar 2)) tNil)))
    (tAsg (tOp (rI CDivW fun i j => .int (i / j)) (tVar 3) (tVar 2)) (gName 3)))
    (tDrop (tBM e.K "list" rAppend (tVar 5) (tCons (tOp (rI (fun _ j => 0 < j) fun i j => .int (i % j)) (tCB rInt1 (tCons (tCall (sp_law_mix e) [] C8.E0 (tCons (tVar 4) (tCons (tVar 6) tNil))) tNil)) (tVar 2)) tNil)))))
    (tRet (tVar 5))))))
def N_law_draws : List Str := ["cell", "count", "base", "rest", "low", "told", "k"]
def t_law_number (e : En) : TS :=
  (tRet (tAndV (tCB (rIsi e.K) (tCons (tVar 0) (tCons (tC (.ty "int")) tNil))) (tNotV (tCB (rIsi e.K) (tCons (tVar 0) (tCons (tC (.ty "bool")) tNil))))))
def N_law_number : List Str := ["x"]
def t_law_same (e : En) (sp_rec : Sp) : TS :=
  (tSeq (tIfS (tTest (tOp rIsN (tVar 1) (tC .non)))
    (tRet (tOp rIsN (tVar 0) (tC .non)))
    tNext)
    (tSeq (tIfS (tB (tCB (rIsi e.K) (tCons (tVar 1) (tCons (tC (.ty "bool")) tNil))))
    (tRet (tAndV (tCB (rIsi e.K) (tCons (tVar 0) (tCons (tC (.ty "bool")) tNil))) (tOp rEq (tVar 0) (tVar 1))))
    tNext)
    (tSeq (tIfS (tB (tCB (rIsi e.K) (tCons (tVar 1) (tCons (tC (.ty "int")) tNil))))
    (tRet (tAndV (tCall (sp_law_number e) [] C8.E0 (tCons (tVar 0) tNil)) (tOp rEq (tVar 0) (tVar 1))))
    tNext)
    (tSeq (tIfS (tB (tCB (rIsi e.K) (tCons (tVar 1) (tCons (tC (.ty "str")) tNil))))
    (tRet (tAndV (tCB (rIsi e.K) (tCons (tVar 0) (tCons (tC (.ty "str")) tNil))) (tOp rEq (tVar 0) (tVar 1))))
    tNext)
    (tSeq (tIfS (tAnd (tB (tCB (rIsi e.K) (tCons (tVar 1) (tCons (tC (.ty "tuple")) tNil)))) (tNot (tB (tCB (rIsi e.K) (tCons (tVar 0) (tCons (tC (.ty "tuple")) tNil))))))
    (tRet (tC (.bl false)))
    tNext)
    (tSeq (tIfS (tAnd (tB (tCB (rIsi e.K) (tCons (tVar 1) (tCons (tC (.ty "list")) tNil)))) (tNot (tB (tCB (rIsi e.K) (tCons (tVar 0) (tCons (tC (.ty "list")) tNil))))))
    (tRet (tC (.bl false)))
    tNext)
    (tSeq (tIfS (tTest (tOp rNe (tCB (rLenSeq e.K) (tCons (tVar 0) tNil)) (tCB (rLenSeq e.K) (tCons (tVar 1) tNil))))
    (tRet (tC (.bl false)))
    tNext)
    (tSeq (tFor (iRng1 (tCons (tCB (rLenSeq e.K) (tCons (tVar 1) tNil)) tNil)) (gName 2)
    (tIfS (tNot (tB (tCall sp_rec [] C8.E0 (tCons (tOp (rIx e.K) (tVar 0) (tVar 2)) (tCons (tOp (rIx e.K) (tVar 1) (tVar 2)) tNil)))))
    (tRet (tC (.bl false)))
    tNext))
    (tRet (tC (.bl true)))))))))))
def N_law_same : List Str := ["told", "due", "k"]
def t_law_merge (e : En) : TS :=
  (tSeq (tAsg (tC (.int 0)) (gName 3))
    (tSeq (tFor (iRng1 (tCons (tC (.int 8)) tNil)) (gName 4)
    (tSeq (tAsg (tIf (tTest (tOp rEq (tOp (rI0 fun i j => .int (Builtin.bitAnd i j)) (tOp (rI (fun _ j => 0 ≤ j) fun i j => .int (i / 2 ^ j.toNat)) (tVar 2) (tVar 4)) (tC (.int 1))) (tC (.int 1)))) (tVar 1) (tVar 0)) (gName 5))
    (tAsg (tOp (rI0 fun i j => .int (i + j)) (tVar 3) (tOp (rI CPow fun i j => .int (i * 2 ^ j.toNat)) (tOp (rI0 fun i j => .int (Builtin.bitAnd i j)) (tOp (rI (fun _ j => 0 ≤ j) fun i j => .int (i / 2 ^ j.toNat)) (tVar 5) (tOp (rI CMul fun i j => .int (i * j)) (tC (.int 8)) (tVar 4))) (tC (.int 255))) (tOp (rI CMul fun i j => .int (i * j)) (tC (.int 8)) (tVar 4)))) (gName 3))))
    (tRet (tVar 3))))
def N_law_merge : List Str := ["old", "new", "cover", "value", "k", "part"]
def t_law_value (e : En) : TS :=
  (tSeq (tAsg (tOp (rI (fun _ j => 0 < j) fun i j => .int (i % j)) (tCB rInt1 (tCons (tVar 0) tNil)) (tC (.int 8))) (gName 2))
    (tSeq (tAsg (tOp (rI (fun _ j => 0 < j) fun i j => .int (i % j)) (tCB rInt1 (tCons (tOp (rI CDiv fun i j => .int (i / j)) (tVar 0) (tC (.int 8))) tNil)) (tVar 1)) (gName 3))
    (tRet (tOp (rIxL e.K) (tLst (tCons (tC (.int 0)) (tCons (tC (.int 1)) (tCons (tOp (rI0 fun i j => .int (i - j)) (tVar 1) (tC (.int 1))) (tCons (tOp (rI CDiv fun i j => .int (i / j)) (tVar 1) (tC (.int 2))) (tCons (tOp (rI (fun _ j => 0 < j) fun i j => .int (i % j)) (tCB rInt1 (tCons (tVar 3) tNil)) (tC (.int 256))) (tCons (tVar 3) (tCons (tOp (rI0 fun i j => .int (i - j)) (tOp (rI0 fun i j => .int (i - j)) (tVar 1) (tC (.int 1))) (tVar 3)) (tCons (tOp (rI (fun _ j => 0 < j) fun i j => .int (i % j)) (tCB rInt1 (tCons (tOp (rI CMul fun i j => .int (i * j)) (tVar 3) (tC (.int 40503))) tNil)) (tVar 1)) tNil))))))))) (tVar 2)))))
def N_law_value : List Str := ["x", "top", "kind", "rest"]
def t_law_sharing (e : En) : TS :=
  (tSeq (tAsg (tOp (rI (fun _ j => 0 < j) fun i j => .int (i % j)) (tOp (rIxL e.K) (tVar 0) (tC (.int 0))) (tC (.int 4))) (gName 1))
    (tSeq (tAsg (tOp (rIxL e.K) (tLst (tCons (tC (.str "no")) (tCons (tC (.str "yes")) tNil))) (tCB rInt1 (tCons (tOp rEq (tOp (rI (fun _ j => 0 < j) fun i j => .int (i % j)) (tOp (rIxL e.K) (tVar 0) (tC (.int 1))) (tC (.int 4))) (tC (.int 0))) tNil))) (gName 2))
    (tSeq (tAsg (tLst (tCons (tLst (tCons (tC (.str "protocol simple")) (tCons (tC (.str "states 1")) (tCons (tC (.str "lone 1")) (tCons (tC (.str "shared 1")) (tCons (tC (.str "own 1")) (tCons (tC (.str "through yes")) (tCons (tC (.str "1 0 1 0")) tNil)))))))) tNil)) (gName 3))
    (tSeq (tDrop (tBM e.K "list" rAppend (tVar 3) (tCons (tLst (tCons (tC (.str "protocol two")) (tCons (tC (.str "states 2")) (tCons (tC (.str "lone 1")) (tCons (tC (.str "shared 1")) (tCons (tC (.str "own 2")) (tCons (tOp rAddStr (tC (.str "through ")) (tVar 2)) (tCons (tC (.str "1 0 1 0")) (tCons (tC (.str "2 2 1 0")) tNil))))))))) tNil)))
    (tSeq (tDrop (tBM e.K "list" rAppend (tVar 3) (tCons (tLst (tCons (tC (.str "protocol three")) (tCons (tC (.str "states 3")) (tCons (tC (.str "lone 2")) (tCons (tC (.str "shared 1")) (tCons (tC (.str "own 3")) (tCons (tOp rAddStr (tC (.str "through ")) (tVar 2)) (tCons (tC (.str "1 0 1 0")) (tCons (tC (.str "2 3 1 0")) (tCons (tC (.str "3 3 1 0")) tNil)))))))))) tNil)))
    (tSeq (tDrop (tBM e.K "list" rAppend (tVar 3) (tCons (tLst (tCons (tC (.str "protocol four")) (tCons (tC (.str "states 4")) (tCons (tC (.str "lone 2")) (tCons (tC (.str "shared 1")) (tCons (tC (.str "own 3")) (tCons (tOp rAddStr (tC (.str "through ")) (tVar 2)) (tCons (tC (.str "1 0 1 0")) (tCons (tC (.str "2 3 1 0")) (tCons (tC (.str "3 3 4 0")) (tCons (tC (.str "4 0 4 0")) tNil))))))))))) tNil)))
    (tSeq (tAsg (tOp (rIxL e.K) (tVar 3) (tVar 1)) (gName 4))
    (tSeq (tIfS (tAnd (tTest (tOp (rI0 fun i j => .bl (decide (j < i))) (tVar 1) (tC (.int 1)))) (tTest (tOp rEq (tOp (rI (fun _ j => 0 < j) fun i j => .int (i % j)) (tOp (rIxL e.K) (tVar 0) (tC (.int 2))) (tC (.int 4))) (tC (.int 0)))))
    (tAsg (tC (.str "lone 1")) (gSub (tVar 4) (tC (.int 2)) rSetL))
    tNext)
    (tSeq (tAsg (tLst (tCons (tLst tNil) (tCons (tLst (tCons (tTup (tCons (tC (.int 2)) (tCons (tC (.str "giveread")) tNil))) (tCons (tTup (tCons (tC (.int 2)) (tCons (tC (.str "cleanread")) tNil))) (tCons (tTup (tCons (tC (.int 2)) (tCons (tC (.str "givesteal")) tNil))) (tCons (tTup (tCons (tC (.int 2)) (tCons (tC (.str "back")) tNil))) tNil))))) tNil))) (gName 5))
    (tSeq (tDrop (tBM e.K "list" rAppend (tVar 5) (tCons (tLst (tCons (tTup (tCons (tC (.int 3)) (tCons (tC (.str "giveread")) tNil))) (tCons (tTup (tCons (tC (.int 3)) (tCons (tC (.str "cleanread")) tNil))) (tCons (tTup (tCons (tC (.int 3)) (tCons (tC (.str "givesteal")) tNil))) (tCons (tTup (tCons (tC (.int 3)) (tCons (tC (.str "back")) tNil))) tNil))))) tNil)))
    (tSeq (tDrop (tBM e.K "list" rAppend (tVar 5) (tCons (tLst (tCons (tTup (tCons (tC (.int 3)) (tCons (tC (.str "giveread")) tNil))) (tCons (tTup (tCons (tC (.int 3)) (tCons (tC (.str "givesteal")) tNil))) (tCons (tTup (tCons (tC (.int 3)) (tCons (tC (.str "back")) tNil))) (tCons (tTup (tCons (tC (.int 4)) (tCons (tC (.str "giveread")) tNil))) (tCons (tTup (tCons (tC (.int 4)) (tCons (tC (.str "givesteal")) tNil))) (tCons (tTup (tCons (tC (.int 4)) (tCons (tC (.str "back")) tNil))) tNil))))))) tNil)))
    (tSeq (tAsg (tLst (tCons (tC (.str "giveread")) (tCons (tC (.str "cleanread")) (tCons (tC (.str "givesteal")) (tCons (tC (.str "cleansteal")) (tCons (tC (.str "back")) tNil)))))) (gName 6))
    (tSeq (tFor (iRng2 (tCons (tC (.int 1)) (tCons (tOp (rI0 fun i j => .int (i + j)) (tVar 1) (tC (.int 2))) tNil))) (gName 7)
    (tSeq (tAsg (tOp rAddStr (tC (.str "state ")) (tOp (rIxL e.K) (tVar 4) (tOp (rI0 fun i j => .int (i + j)) (tC (.int 5)) (tVar 7)))) (gName 8))
    (tSeq (tFor (iRng1 (tCons (tC (.int 5)) tNil)) (gName 9)
    (tIfS (tOr (tTest (tOp (rInD e.K) (tTup (tCons (tVar 7) (tCons (tOp (rIxL e.K) (tVar 6) (tVar 9)) tNil))) (tOp (rIxL e.K) (tVar 5) (tVar 1)))) (tAnd (tTest (tOp rEq (tOp (rI0 fun i j => .int (Builtin.bitAnd i j)) (tOp (rI (fun _ j => 0 ≤ j) fun i j => .int (i / 2 ^ j.toNat)) (tOp (rIxL e.K) (tVar 0) (tOp (rI0 fun i j => .int (i + j)) (tC (.int 2)) (tVar 7))) (tVar 9)) (tC (.int 1))) (tC (.int 1)))) (tTest (tOp rEq (tOp (rI (fun _ j => 0 < j) fun i j => .int (i % j)) (tOp (rIxL e.K) (tVar 0) (tC (.int 3))) (tC (.int 2))) (tC (.int 0))))))
    (tAsg (tOp rAddStr (tOp rAddStr (tVar 8) (tC (.str " "))) (tOp (rIxL e.K) (tVar 6) (tVar 9))) (gName 8))
    tNext))
    (tAsg (tVar 8) (gSub (tVar 4) (tOp (rI0 fun i j => .int (i + j)) (tC (.int 5)) (tVar 7)) rSetL)))))
    (tRet (tJoin e.K (tC (.str "\n")) (tVar 4))))))))))))))))
def N_law_sharing : List Str := ["t", "kind", "through", "lines", "told", "needed", "names", "s", "line", "i"]
def t_law_table_text (e : En) : TS :=
  (tSeq (tAsg (tOp (rI0 fun i j => .int (i + j)) (tC (.int 1)) (tOp (rI (fun _ j => 0 < j) fun i j => .int (i % j)) (tOp (rIxL e.K) (tVar 0) (tC (.int 0))) (tC (.int 4)))) (gName 1))
    (tSeq (tAsg (tLst (tCons (tOp rAddStr (tC (.str "protocol any")) (tCB rStrInt (tCons (tOp (rI (fun _ j => 0 < j) fun i j => .int (i % j)) (tOp (rIxL e.K) (tVar 0) (tC (.int 1))) (tC (.int 90))) tNil))) (tCons (tOp rAddStr (tC (.str "states ")) (tCB rStrInt (tCons (tVar 1) tNil))) (tCons (tOp rAddStr (tC (.str "lone ")) (tCB rStrInt (tCons (tOp (rI0 fun i j => .int (i + j)) (tC (.int 1)) (tOp (rI (fun _ j => 0 < j) fun i j => .int (i % j)) (tOp (rIxL e.K) (tVar 0) (tC (.int 1))) (tVar 1))) tNil))) (tCons (tOp rAddStr (tC (.str "shared ")) (tCB rStrInt (tCons (tOp (rI0 fun i j => .int (i + j)) (tC (.int 1)) (tOp (rI (fun _ j => 0 < j) fun i j => .int (i % j)) (tOp (rIxL e.K) (tVar 0) (tC (.int 2))) (tVar 1))) tNil))) tNil))))) (gName 2))
    (tSeq (tAsg (tOp rCat (tVar 2) (tLst (tCons (tOp rAddStr (tC (.str "own ")) (tCB rStrInt (tCons (tOp (rI0 fun i j => .int (i + j)) (tC (.int 1)) (tOp (rI (fun _ j => 0 < j) fun i j => .int (i % j)) (tOp (rIxL e.K) (tVar 0) (tC (.int 3))) (tVar 1))) tNil))) (tCons (tOp rAddStr (tC (.str "through ")) (tOp (rIxL e.K) (tLst (tCons (tC (.str "no")) (tCons (tC (.str "no")) (tCons (tC (.str "no")) (tCons (tC (.str "yes")) tNil))))) (tOp (rI (fun _ j => 0 < j) fun i j => .int (i % j)) (tOp (rIxL e.K) (tVar 0) (tC (.int 4))) (tC (.int 4))))) tNil)))) (gName 2))
    (tSeq (tFor (iRng1 (tCons (tVar 1) tNil)) (gName 3)
    (tSeq (tAsg (tIf (tTest (tOp rEq (tOp (rI (fun _ j => 0 < j) fun i j => .int (i % j)) (tOp (rI CDiv fun i j => .int (i / j)) (tOp (rIxL e.K) (tVar 0) (tOp (rI0 fun i j => .int (i + j)) (tC (.int 5)) (tVar 3))) (tC (.int 8))) (tC (.int 2))) (tC (.int 0)))) (tOp (rI (fun _ j => 0 < j) fun i j => .int (i % j)) (tOp (rIxL e.K) (tVar 0) (tOp (rI0 fun i j => .int (i + j)) (tC (.int 5)) (tVar 3))) (tOp (rI0 fun i j => .int (i + j)) (tVar 1) (tC (.int 1)))) (tC (.int 0))) (gName 4))
    (tSeq (tAsg (tIf (tTest (tOp rEq (tOp (rI (fun _ j => 0 < j) fun i j => .int (i % j)) (tOp (rI CDiv fun i j => .int (i / j)) (tOp (rIxL e.K) (tVar 0) (tOp (rI0 fun i j => .int (i + j)) (tC (.int 13)) (tVar 3))) (tC (.int 8))) (tC (.int 3))) (tC (.int 0)))) (tOp (rI (fun _ j => 0 < j) fun i j => .int (i % j)) (tOp (rIxL e.K) (tVar 0) (tOp (rI0 fun i j => .int (i + j)) (tC (.int 13)) (tVar 3))) (tOp (rI0 fun i j => .int (i + j)) (tVar 1) (tC (.int 1)))) (tC (.int 0))) (gName 5))
    (tSeq (tAsg (tOp rAddStr (tOp rAddStr (tOp rAddStr (tOp rAddStr (tOp rAddStr (tOp rAddStr (tOp rAddStr (tC (.str "state ")) (tCB rStrInt (tCons (tOp (rI0 fun i j => .int (i + j)) (tVar 3) (tC (.int 1))) tNil))) (tC (.str " "))) (tCB rStrInt (tCons (tVar 4) tNil))) (tC (.str " "))) (tCB rStrInt (tCons (tOp (rI (fun _ j => 0 < j) fun i j => .int (i % j)) (tOp (rIxL e.K) (tVar 0) (tOp (rI0 fun i j => .int (i + j)) (tC (.int 9)) (tVar 3))) (tOp (rI0 fun i j => .int (i + j)) (tVar 1) (tC (.int 1)))) tNil))) (tC (.str " "))) (tCB rStrInt (tCons (tVar 5) tNil))) (gName 6))
    (tSeq (tFor (iRng1 (tCons (tC (.int 5)) tNil)) (gName 7)
    (tIfS (tTest (tOp rEq (tOp (rI0 fun i j => .int (Builtin.bitAnd i j)) (tOp (rI (fun _ j => 0 ≤ j) fun i j => .int (i / 2 ^ j.toNat)) (tOp (rIxL e.K) (tVar 0) (tOp (rI0 fun i j => .int (i + j)) (tC (.int 17)) (tVar 3))) (tVar 7)) (tC (.int 1))) (tC (.int 1))))
    (tAsg (tOp rAddStr (tOp rAddStr (tVar 6) (tC (.str " "))) (tOp (rIxL e.K) (tLst (tCons (tC (.str "giveread")) (tCons (tC (.str "cleanread")) (tCons (tC (.str "givesteal")) (tCons (tC (.str "cleansteal")) (tCons (tC (.str "back")) tNil)))))) (tVar 7))) (gName 6))
    tNext))
    (tDrop (tBM e.K "list" rAppend (tVar 2) (tCons (tVar 6) tNil))))))))
    (tRet (tJoin e.K (tC (.str "\n")) (tVar 2)))))))
def N_law_table_text : List Str := ["t", "k", "lines", "s", "write", "steal", "line", "i"]
def t_law_table (e : En) : TS :=
  (tSeq (tAsg (tLc (iList e.K (tSplit (tVar 0) (tC (.str "\n")))) (gName 3) tYes (tSplit (tVar 3) (tC (.str " "))) [3]) (gName 1))
    (tSeq (tAsg (tDisp [((tC (.str "lone")), (tCB rIntStr (tCons (tOp (rIxL e.K) (tOp (rIxL e.K) (tVar 1) (tC (.int 2))) (tC (.int 1))) tNil))), ((tC (.str "shared")), (tCB rIntStr (tCons (tOp (rIxL e.K) (tOp (rIxL e.K) (tVar 1) (tC (.int 3))) (tC (.int 1))) tNil))), ((tC (.str "own")), (tCB rIntStr (tCons (tOp (rIxL e.K) (tOp (rIxL e.K) (tVar 1) (tC (.int 4))) (tC (.int 1))) tNil))), ((tC (.str "through")), (tOp rEq (tOp (rIxL e.K) (tOp (rIxL e.K) (tVar 1) (tC (.int 5))) (tC (.int 1))) (tC (.str "yes"))))]) (gName 2))
    (tSeq (sDPut (tVar 2) (tC (.str "rows")) (tOp rCat (tLst (tCons (tTup (tCons (tC (.int 0)) (tCons (tC (.int 0)) (tCons (tC (.int 0)) (tCons (tLst tNil) tNil))))) tNil)) (tLc (iList e.K (tSl (rSlL e.K) (tVar 1) (tPart (tC (.int 6))) tNoPart)) (gName 4) tYes (tTup (tCons (tCB rIntStr (tCons (tOp (rIxL e.K) (tVar 4) (tC (.int 2))) tNil)) (tCons (tCB rIntStr (tCons (tOp (rIxL e.K) (tVar 4) (tC (.int 3))) tNil)) (tCons (tCB rIntStr (tCons (tOp (rIxL e.K) (tVar 4) (tC (.int 4))) tNil)) (tCons (tSl (rSlL e.K) (tVar 4) (tPart (tC (.int 5))) tNoPart) tNil))))) [4])))
    (tRet (tVar 2)))))
def N_law_table : List Str := ["text", "words", "p", "line", "w"]
def t_law_others (e : En) : TS :=
  (tSeq (tAsg (tC (.bl false)) (gName 6))
    (tSeq (tAsg (tC .non) (gName 7))
    (tSeq (tFor (iRng1 (tCons (tCB (rLenSeq e.K) (tCons (tOp (rIxL e.K) (tVar 1) (tC (.int 0))) tNil)) tNil)) (gName 8)
    (tIfS (tAnd (tTest (tOp rNe (tVar 8) (tVar 2))) (tTest (tOp (rI0 fun i j => .bl (decide (j < i))) (tOp (rIxL e.K) (tOp (rIxL e.K) (tVar 1) (tC (.int 0))) (tVar 8)) (tC (.int 0)))))
    (tSeq (tAsg (tC (.bl true)) (gName 6))
    (tSeq (tAsg (tOp (rIxL e.K) (tDGet (tVar 0) (tC (.str "rows"))) (tOp (rIxL e.K) (tOp (rIxL e.K) (tVar 1) (tC (.int 0))) (tVar 8))) (gName 9))
    (tSeq (tIfS (tTest (tOp (rIn e.K false) (tVar 3) (tOp (rIxT e.K) (tVar 9) (tC (.int 3)))))
    (tAsg (tOp (rIxL e.K) (tOp (rIxL e.K) (tVar 1) (tC (.int 1))) (tVar 8)) (gSub (tVar 1) (tC (.int 2)) rSetL))
    tNext)
    (tSeq (tIfS (tAnd (tTest (tOp rIsN (tVar 7) (tC .non))) (tTest (tOp (rIn e.K false) (tVar 4) (tOp (rIxT e.K) (tVar 9) (tC (.int 3))))))
    (tAsg (tOp (rIxL e.K) (tOp (rIxL e.K) (tVar 1) (tC (.int 1))) (tVar 8)) (gName 7))
    tNext)
    (tSeq (tAsg (tOp (rIxT e.K) (tVar 9) (tVar 5)) (gSub (tOp (rIxL e.K) (tVar 1) (tC (.int 0))) (tVar 8) rSetL))
    (tIfS (tTest (tOp rEq (tOp (rIxT e.K) (tVar 9) (tVar 5)) (tC (.int 0))))
    (tAsg (tC (.int 0)) (gSub (tOp (rIxL e.K) (tVar 1) (tC (.int 1))) (tVar 8) rSetL))
    tNext))))))
    tNext))
    (tRet (tTup (tCons (tVar 6) (tCons (tIf (tTest (tOp rIsN (tVar 7) (tC .non))) (tOp (rIxL e.K) (tVar 1) (tC (.int 2))) (tVar 7)) tNil)))))))
def N_law_others : List Str := ["p", "line", "c", "clean", "give", "move", "there", "value", "k", "row"]
def t_law_cache_load (e : En) : TS :=
  (tSeq (tIfS (tTest (tOp rIsN (tVar 0) (tC .non)))
    (tRet (tOp (rIxL e.K) (tVar 1) (tC (.int 2))))
    tNext)
    (tSeq (tIfS (tTest (tOp rEq (tOp (rIxL e.K) (tOp (rIxL e.K) (tVar 1) (tC (.int 0))) (tVar 2)) (tC (.int 0))))
    (tSeq (tAsg (tCall (sp_law_others e) [] C8.E0 (tCons (tVar 0) (tCons (tVar 1) (tCons (tVar 2) (tCons (tC (.str "cleanread")) (tCons (tC (.str "giveread")) (tCons (tC (.int 1)) tNil))))))) (gTup e.K 2 (gCons (gName 3) (gCons (gName 4) gNil))))
    (tSeq (tAsg (tIf (tB (tVar 3)) (tDGet (tVar 0) (tC (.str "shared"))) (tDGet (tVar 0) (tC (.str "lone")))) (gSub (tOp (rIxL e.K) (tVar 1) (tC (.int 0))) (tVar 2) rSetL))
    (tAsg (tVar 4) (gSub (tOp (rIxL e.K) (tVar 1) (tC (.int 1))) (tVar 2) rSetL))))
    tNext)
    (tRet (tOp (rIxL e.K) (tOp (rIxL e.K) (tVar 1) (tC (.int 1))) (tVar 2)))))
def N_law_cache_load : List Str := ["p", "line", "c", "there", "value"]
def t_law_cache_store (e : En) : TS :=
  (tSeq (tIfS (tTest (tOp rIsN (tVar 0) (tC .non)))
    (tSeq (tAsg (tOp (rIxL e.K) (tVar 1) (tC (.int 2))) (gName 5))
    (tSeq (tAsg (tCall (sp_law_merge e) [] C8.E0 (tCons (tVar 5) (tCons (tVar 4) (tCons (tVar 3) tNil)))) (gSub (tVar 1) (tC (.int 2)) rSetL))
    (tRet (tVar 5))))
    tNext)
    (tSeq (tAsg (tOp (rIxL e.K) (tOp (rIxL e.K) (tVar 1) (tC (.int 0))) (tVar 2)) (gName 6))
    (tSeq (tIfS (tTest (tOp (rI0 fun i j => .bl (decide (j < i))) (tOp (rIxT e.K) (tOp (rIxL e.K) (tDGet (tVar 0) (tC (.str "rows"))) (tVar 6)) (tC (.int 0))) (tC (.int 0))))
    (tAsg (tOp (rIxT e.K) (tOp (rIxL e.K) (tDGet (tVar 0) (tC (.str "rows"))) (tVar 6)) (tC (.int 0))) (gSub (tOp (rIxL e.K) (tVar 1) (tC (.int 0))) (tVar 2) rSetL))
    (tSeq (tAsg (tCall (sp_law_others e) [] C8.E0 (tCons (tVar 0) (tCons (tVar 1) (tCons (tVar 2) (tCons (tC (.str "cleansteal")) (tCons (tC (.str "givesteal")) (tCons (tC (.int 2)) tNil))))))) (gTup e.K 2 (gCons (gName 7) (gCons (gName 8) gNil))))
    (tSeq (tIfS (tTest (tOp rEq (tVar 6) (tC (.int 0))))
    (tAsg (tVar 8) (gSub (tOp (rIxL e.K) (tVar 1) (tC (.int 1))) (tVar 2) rSetL))
    tNext)
    (tAsg (tDGet (tVar 0) (tC (.str "own"))) (gSub (tOp (rIxL e.K) (tVar 1) (tC (.int 0))) (tVar 2) rSetL)))))
    (tSeq (tAsg (tOp (rIxL e.K) (tOp (rIxL e.K) (tVar 1) (tC (.int 1))) (tVar 2)) (gName 5))
    (tSeq (tAsg (tCall (sp_law_merge e) [] C8.E0 (tCons (tVar 5) (tCons (tVar 4) (tCons (tVar 3) tNil)))) (gSub (tOp (rIxL e.K) (tVar 1) (tC (.int 1))) (tVar 2) rSetL))
    (tSeq (tIfS (tB (tDGet (tVar 0) (tC (.str "through"))))
    (tAsg (tOp (rIxL e.K) (tOp (rIxL e.K) (tVar 1) (tC (.int 1))) (tVar 2)) (gSub (tVar 1) (tC (.int 2)) rSetL))
    tNext)
    (tRet (tVar 5))))))))
def N_law_cache_store : List Str := ["p", "line", "c", "cover", "laid", "old", "s", "there", "value"]
def t_law_cache_leave (e : En) : TS :=
  (tSeq (tIfS (tAnd (tTest (tOp rNotN (tVar 0) (tC .non))) (tTest (tOp (rIn e.K false) (tC (.str "back")) (tOp (rIxT e.K) (tOp (rIxL e.K) (tDGet (tVar 0) (tC (.str "rows"))) (tOp (rIxL e.K) (tOp (rIxL e.K) (tVar 1) (tC (.int 0))) (tVar 2))) (tC (.int 3))))))
    (tAsg (tOp (rIxL e.K) (tOp (rIxL e.K) (tVar 1) (tC (.int 1))) (tVar 2)) (gSub (tVar 1) (tC (.int 2)) rSetL))
    tNext)
    (tSeq (tAsg (tC (.int 0)) (gSub (tOp (rIxL e.K) (tVar 1) (tC (.int 0))) (tVar 2) rSetL))
    (tAsg (tC (.int 0)) (gSub (tOp (rIxL e.K) (tVar 1) (tC (.int 1))) (tVar 2) rSetL))))
def N_law_cache_leave : List Str := ["p", "line", "c"]
def t_law_lines (e : En) : TS :=
  (tRet (tLc (iList e.K (tVar 0)) (gName 2) tYes (tLst (tCons (tOp rRep (tLst (tCons (tC (.int 0)) tNil)) (tVar 1)) (tCons (tOp rRep (tLst (tCons (tC (.int 0)) tNil)) (tVar 1)) (tCons (tVar 2) tNil)))) [2]))
def N_law_lines : List Str := ["memory", "count", "word"]
def t_law_told_caches (e : En) : TS :=
  (tSeq (tAsg (tLc (iRng1 (tCons (tVar 1) tNil)) (gName 3) tYes (tCB (rTupOf e.K) (tCons (tLc (iList e.K (tVar 0)) (gName 4) tYes (tTup (tCons (tOp (rIxL e.K) (tOp (rIxL e.K) (tVar 4) (tC (.int 0))) (tVar 3)) (tCons (tOp (rIxL e.K) (tOp (rIxL e.K) (tVar 4) (tC (.int 1))) (tVar 3)) tNil))) [4]) tNil)) [3]) (gName 2))
    (tRet (tTup (tCons (tCB (rTupOf e.K) (tCons (tLc (iList e.K (tVar 0)) (gName 4) tYes (tOp (rIxL e.K) (tVar 4) (tC (.int 2))) [4]) tNil)) (tCons (tCB (rTupOf e.K) (tCons (tVar 2) tNil)) tNil)))))
def N_law_told_caches : List Str := ["lines", "count", "caches", "n", "line"]
def t_law_emptied (e : En) : TS :=
  (tSeq (tAsg (tLst tNil) (gName 3))
    (tSeq (tFor (iList e.K (tVar 1)) (gName 4)
    (tSeq (tAsg (tLst (tCons (tCB (rListOf e.K) (tCons (tOp (rIxL e.K) (tVar 4) (tC (.int 0))) tNil)) (tCons (tCB (rListOf e.K) (tCons (tOp (rIxL e.K) (tVar 4) (tC (.int 1))) tNil)) (tCons (tOp (rIxL e.K) (tVar 4) (tC (.int 2))) tNil)))) (gName 5))
    (tSeq (tFor (iRng1 (tCons (tVar 2) tNil)) (gName 6)
    (tIfS (tTest (tOp (rI0 fun i j => .bl (decide (j < i))) (tOp (rIxL e.K) (tOp (rIxL e.K) (tVar 5) (tC (.int 0))) (tVar 6)) (tC (.int 0))))
    (tDrop (tCall (sp_law_cache_leave e) [] C8.E0 (tCons (tVar 0) (tCons (tVar 5) (tCons (tVar 6) tNil)))))
    tNext))
    (tDrop (tBM e.K "list" rAppend (tVar 3) (tCons (tOp (rIxL e.K) (tVar 5) (tC (.int 2))) tNil))))))
    (tRet (tCB (rTupOf e.K) (tCons (tVar 3) tNil)))))
def N_law_emptied : List Str := ["p", "lines", "count", "told", "line", "other", "n"]
def t_law_protocol (e : En) : TS :=
  (tSeq (tAsg (tCall (sp_law_draws e) [] C8.E0 (tCons (tVar 0) (tCons (tC (.int 22)) (tCons (tC (.int 1000)) tNil)))) (gName 1))
    (tSeq (tAsg (tOp (rI (fun _ j => 0 < j) fun i j => .int (i % j)) (tCB rInt1 (tCons (tOp (rIxL e.K) (tVar 1) (tC (.int 0))) tNil)) (tC (.int 8))) (gName 2))
    (tSeq (tIfS (tTest (tOp rEq (tVar 2) (tC (.int 7))))
    (tRet (tC .non))
    tNext)
    (tRet (tIf (tTest (tOp (rI0 fun i j => .bl (decide (i < j))) (tVar 2) (tC (.int 5)))) (tCall (sp_law_table_text e) [] C8.E0 (tCons (tSl (rSlL e.K) (tVar 1) (tPart (tC (.int 1))) tNoPart) tNil)) (tCall (sp_law_sharing e) [] C8.E0 (tCons (tSl (rSlL e.K) (tVar 1) (tPart (tC (.int 1))) tNoPart) tNil)))))))
def N_law_protocol : List Str := ["cell", "t", "kind"]
def t_law_accesses (e : En) : TS :=
  (tSeq (tAsg (tCall (sp_law_draws e) [] C8.E0 (tCons (tVar 0) (tCons (tOp (rI CMul fun i j => .int (i * j)) (tC (.int 2)) (tVar 1)) (tCons (tOp (rI CPow fun i j => .int (i * 2 ^ j.toNat)) (tC (.int 1)) (tC (.int 68))) tNil)))) (gName 4))
    (tSeq (tAsg (tLst tNil) (gName 5))
    (tSeq (tFor (iRng1 (tCons (tVar 1) tNil)) (gName 6)
    (tSeq (tAsg (tOp (rIxL e.K) (tVar 4) (tOp (rI CMul fun i j => .int (i * j)) (tC (.int 2)) (tVar 6))) (gName 7))
    (tSeq (tAsg (tOp (rIxL e.K) (tLst (tCons (tC (.str "load")) (tCons (tC (.str "load")) (tCons (tC (.str "load")) (tCons (tC (.str "store")) (tCons (tC (.str "store")) (tCons (tC (.str "store")) (tCons (tC (.str "store")) (tCons (tC (.str "leave")) tNil))))))))) (tOp (rI (fun _ j => 0 < j) fun i j => .int (i % j)) (tCB rInt1 (tCons (tVar 7) tNil)) (tC (.int 8)))) (gName 8))
    (tDrop (tBM e.K "list" rAppend (tVar 5) (tCons (tTup (tCons (tVar 8) (tCons (tOp (rIxL e.K) (tVar 2) (tOp (rI (fun _ j => 0 < j) fun i j => .int (i % j)) (tCB rInt1 (tCons (tOp (rI CDiv fun i j => .int (i / j)) (tVar 7) (tC (.int 8))) tNil)) (tCB (rLenSeq e.K) (tCons (tVar 2) tNil)))) (tCons (tOp (rI (fun _ j => 0 < j) fun i j => .int (i % j)) (tCB rInt1 (tCons (tOp (rI CDiv fun i j => .int (i / j)) (tVar 7) (tC (.int 64))) tNil)) (tVar 3)) (tCons (tOp (rI (fun _ j => 0 < j) fun i j => .int (i % j)) (tCB rInt1 (tCons (tOp (rI CDiv fun i j => .int (i / j)) (tVar 7) (tC (.int 512))) tNil)) (tC (.int 256))) (tCons (tCall (sp_law_value e) [] C8.E0 (tCons (tOp (rIxL e.K) (tVar 4) (tOp (rI0 fun i j => .int (i + j)) (tOp (rI CMul fun i j => .int (i * j)) (tC (.int 2)) (tVar 6)) (tC (.int 1)))) (tCons (tOp (rI CPow fun i j => .int (i * 2 ^ j.toNat)) (tC (.int 1)) (tC (.int 64))) tNil))) tNil)))))) tNil))))))
    (tRet (tVar 5)))))
def N_law_accesses : List Str := ["cell", "many", "names", "words", "t", "told", "k", "u", "kind"]
def t_law_answer (e : En) : TS :=
  (tSeq (tIfS (tTest (tOp rEq (tOp (rIxT e.K) (tVar 1) (tC (.int 0))) (tC (.str "load"))))
    (tRet (tMeth e.Caches "load" (sp_Caches_load e) [] C8.E0 (tVar 0) (tCons (tOp (rIxT e.K) (tVar 1) (tC (.int 1))) (tCons (tVar 2) tNil))))
    tNext)
    (tSeq (tIfS (tTest (tOp rEq (tOp (rIxT e.K) (tVar 1) (tC (.int 0))) (tC (.str "store"))))
    (tRet (tMeth e.Caches "store" (sp_Caches_store e) [] C8.E0 (tVar 0) (tCons (tOp (rIxT e.K) (tVar 1) (tC (.int 1))) (tCons (tVar 2) (tCons (tOp (rIxT e.K) (tVar 1) (tC (.int 3))) (tCons (tOp (rIxT e.K) (tVar 1) (tC (.int 4))) tNil))))))
    tNext)
    (tRet (tMeth e.Caches "leave" (sp_Caches_leave e) [] C8.E0 (tVar 0) (tCons (tOp (rIxT e.K) (tVar 1) (tC (.int 1))) (tCons (tVar 2) tNil))))))
def N_law_answer : List Str := ["caches", "a", "word"]
def t_law_own (e : En) : TS :=
  (tSeq (tIfS (tTest (tOp rEq (tOp (rIxT e.K) (tVar 2) (tC (.int 0))) (tC (.str "load"))))
    (tRet (tCall (sp_law_cache_load e) [] C8.E0 (tCons (tVar 0) (tCons (tVar 1) (tCons (tOp (rIxT e.K) (tVar 2) (tC (.int 1))) tNil)))))
    tNext)
    (tSeq (tIfS (tTest (tOp rEq (tOp (rIxT e.K) (tVar 2) (tC (.int 0))) (tC (.str "store"))))
    (tRet (tCall (sp_law_cache_store e) [] C8.E0 (tCons (tVar 0) (tCons (tVar 1) (tCons (tOp (rIxT e.K) (tVar 2) (tC (.int 1))) (tCons (tOp (rIxT e.K) (tVar 2) (tC (.int 3))) (tCons (tOp (rIxT e.K) (tVar 2) (tC (.int 4))) tNil)))))))
    tNext)
    (tRet (tCall (sp_law_cache_leave e) [] C8.E0 (tCons (tVar 0) (tCons (tVar 1) (tCons (tOp (rIxT e.K) (tVar 2) (tC (.int 1))) tNil)))))))
def N_law_own : List Str := ["p", "line", "a"]
def t_law_stands (e : En) : TS :=
  (tSeq (tAsg (tCall (sp_law_told_caches e) [] C8.E0 (tCons (tVar 1) (tCons (tVar 2) tNil))) (gName 4))
    (tSeq (tIfS (tNot (tB (tCall (sp_law_same e) [] C8.E0 (tCons (tFld e.K (tVar 0) "memory") (tCons (tLc (iList e.K (tVar 1)) (gName 5) tYes (tOp (rIxL e.K) (tVar 5) (tC (.int 2))) [5]) tNil)))))
    (tRet (tC (.bl false)))
    tNext)
    (tRet (tIf (tB (tVar 3)) (tCall (sp_law_same e) [] C8.E0 (tCons (tMeth e.Caches "told" (sp_Caches_told e) [] C8.E0 (tVar 0) tNil) (tCons (tVar 4) tNil))) (tOp (rEqD e.K) (tMeth e.Caches "told" (sp_Caches_told e) [] C8.E0 (tVar 0) tNil) (tVar 4))))))
def N_law_stands : List Str := ["caches", "lines", "count", "deep", "due", "line"]
def t_law_copies (e : En) : TS :=
  (tRet (tLc (iList e.K (tVar 0)) (gName 1) tYes (tLst (tCons (tCB (rListOf e.K) (tCons (tOp (rIxL e.K) (tVar 1) (tC (.int 0))) tNil)) (tCons (tCB (rListOf e.K) (tCons (tOp (rIxL e.K) (tVar 1) (tC (.int 1))) tNil)) (tCons (tOp (rIxL e.K) (tVar 1) (tC (.int 2))) tNil)))) [1]))
def N_law_copies : List Str := ["lines", "line"]
def t_law_ended (e : En) : TS :=
  (tSeq (tAsg (tCall (sp_law_emptied e) [] C8.E0 (tCons (tVar 0) (tCons (tVar 3) (tCons (tVar 4) tNil)))) (gName 5))
    (tSeq (tFor (iRng1 (tCons (tCB (rLenSeq e.K) (tCons (tVar 3) tNil)) tNil)) (gName 6)
    (tIfS (tOr (tNot (tB (tCall (sp_law_same e) [] C8.E0 (tCons (tMeth e.Caches "emptied" (sp_Caches_emptied e) [] C8.E0 (tOp (rIxL e.K) (tVar 2) (tVar 6)) tNil) (tCons (tTup (tCons (tOp (rIxT e.K) (tVar 5) (tVar 6)) tNil)) tNil))))) (tNot (tB (tCall (sp_law_stands e) [] C8.E0 (tCons (tOp (rIxL e.K) (tVar 2) (tVar 6)) (tCons (tLst (tCons (tOp (rIxL e.K) (tVar 3) (tVar 6)) tNil)) (tCons (tVar 4) (tCons (tC (.bl true)) tNil))))))))
    (tRet (tC (.bl false)))
    tNext))
    (tRet (tAndV (tCall (sp_law_same e) [] C8.E0 (tCons (tMeth e.Caches "emptied" (sp_Caches_emptied e) [] C8.E0 (tVar 1) tNil) (tCons (tVar 5) tNil))) (tAndV (tCall (sp_law_same e) [] C8.E0 (tCons (tMeth e.Caches "emptied" (sp_Caches_emptied e) [] C8.E0 (tVar 1) tNil) (tCons (tVar 5) tNil))) (tCall (sp_law_stands e) [] C8.E0 (tCons (tVar 1) (tCons (tVar 3) (tCons (tVar 4) (tCons (tC (.bl true)) tNil))))))))))
def N_law_ended : List Str := ["p", "caches", "parts", "lines", "count", "due", "w"]
def t_law (e : En) : TS :=
  (tSeq (tAsg (tCall (sp_law_protocol e) [] C8.E0 (tCons (tCall (sp_law_cell e) [] C8.E0 (tCons (tVar 0) (tCons (tC (.int 0)) tNil))) tNil)) (gName 1))
    (tSeq (tAsg (tIf (tTest (tOp rIsN (tVar 1) (tC .non))) (tC .non) (tCall (sp_read_protocol e) [] C8.E0 (tCons (tVar 1) tNil))) (gName 2))
    (tSeq (tAsg (tIf (tTest (tOp rIsN (tVar 1) (tC .non))) (tC .non) (tCall (sp_law_table e) [] C8.E0 (tCons (tVar 1) tNil))) (gName 3))
    (tSeq (tAsg (tCall (sp_law_draws e) [] C8.E0 (tCons (tCall (sp_law_cell e) [] C8.E0 (tCons (tVar 0) (tCons (tC (.int 1)) tNil))) (tCons (tC (.int 6)) (tCons (tC (.int 1000)) tNil)))) (gName 4))
    (tSeq (tAsg (tOp (rIxL e.K) (tLst (tCons (tC (.int 4)) (tCons (tC (.int 3)) (tCons (tC (.int 5)) (tCons (tC (.int 6)) tNil))))) (tOp (rI (fun _ j => 0 < j) fun i j => .int (i % j)) (tCB rInt1 (tCons (tOp (rIxL e.K) (tVar 4) (tC (.int 0))) tNil)) (tC (.int 4)))) (gName 5))
    (tSeq (tAsg (tOp (rI (fun _ j => 0 < j) fun i j => .int (i % j)) (tCB rInt1 (tCons (tOp (rIxL e.K) (tVar 4) (tC (.int 1))) tNil)) (tVar 5)) (gName 6))
    (tSeq (tAsg (tOp (rI (fun _ j => 0 < j) fun i j => .int (i % j)) (tCB rInt1 (tCons (tOp (rI0 fun i j => .int (i + j)) (tOp (rI0 fun i j => .int (i + j)) (tVar 6) (tC (.int 1))) (tOp (rI (fun _ j => 0 < j) fun i j => .int (i % j)) (tCB rInt1 (tCons (tOp (rIxL e.K) (tVar 4) (tC (.int 2))) tNil)) (tOp (rI0 fun i j => .int (i - j)) (tVar 5) (tC (.int 1))))) tNil)) (tVar 5)) (gName 7))
    (tSeq (tAsg (tLc (iRng1 (tCons (tVar 5) tNil)) (gName 18) (tAnd (tTest (tOp rNe (tVar 18) (tVar 6))) (tTest (tOp rNe (tVar 18) (tVar 7)))) (tVar 18) [18]) (gName 8))
    (tSeq (tAsg (tOp (rIxL e.K) (tLst (tCons (tC (.int 2)) (tCons (tC (.int 3)) (tCons (tC (.int 1)) (tCons (tC (.int 4)) (tCons (tC (.int 5)) tNil)))))) (tOp (rI (fun _ j => 0 < j) fun i j => .int (i % j)) (tCB rInt1 (tCons (tOp (rIxL e.K) (tVar 4) (tC (.int 3))) tNil)) (tC (.int 5)))) (gName 9))
    (tSeq (tAsg (tLc (iList e.K (tCall (sp_law_draws e) [] C8.E0 (tCons (tCall (sp_law_cell e) [] C8.E0 (tCons (tVar 0) (tCons (tC (.int 2)) tNil))) (tCons (tVar 9) (tCons (tOp (rI CPow fun i j => .int (i * 2 ^ j.toNat)) (tC (.int 1)) (tC (.int 68))) tNil))))) (gName 22) tYes (tCall (sp_law_value e) [] C8.E0 (tCons (tVar 22) (tCons (tOp (rI CPow fun i j => .int (i * 2 ^ j.toNat)) (tC (.int 1)) (tC (.int 64))) tNil))) [22]) (gName 10))
    (tSeq (tAsg (tMake e.Caches (sp_Caches___init__ e) [] C8.E0 (tCons (tVar 2) (tCons (tVar 5) (tCons (tCB (rListOf e.K) (tCons (tVar 10) tNil)) tNil)))) (gName 11))
    (tSeq (tAsg (tLc (iList e.K (tVar 10)) (gName 23) tYes (tMake e.Caches (sp_Caches___init__ e) [] C8.E0 (tCons (tVar 2) (tCons (tVar 5) (tCons (tLst (tCons (tVar 23) tNil)) tNil)))) [23]) (gName 12))
    (tSeq (tAsg (tCall (sp_law_lines e) [] C8.E0 (tCons (tVar 10) (tCons (tVar 5) tNil))) (gName 13))
    (tSeq (tAsg (tCall (sp_law_accesses e) [] C8.E0 (tCons (tCall (sp_law_cell e) [] C8.E0 (tCons (tVar 0) (tCons (tC (.int 3)) tNil))) (tCons (tOp (rI0 fun i j => .int (i + j)) (tC (.int 6)) (tOp (rI (fun _ j => 0 < j) fun i j => .int (i % j)) (tCB rInt1 (tCons (tOp (rIxL e.K) (tVar 4) (tC (.int 4))) tNil)) (tC (.int 19)))) (tCons (tVar 8) (tCons (tVar 9) tNil))))) (gName 14))
    (tSeq (tAsg (tOp (rI (fun _ j => 0 < j) fun i j => .int (i % j)) (tCB rInt1 (tCons (tOp (rIxL e.K) (tVar 4) (tC (.int 5))) tNil)) (tCB (rLenSeq e.K) (tCons (tVar 14) tNil))) (gName 15))
    (tSeq (tAsg (tMeth e.Caches "copy" (sp_Caches_copy e) [] C8.E0 (tVar 11) tNil) (gName 16))
    (tSeq (tAsg (tCall (sp_law_copies e) [] C8.E0 (tCons (tVar 13) tNil)) (gName 17))
    (tSeq (tFor (iRng1 (tCons (tCB (rLenSeq e.K) (tCons (tVar 14) tNil)) tNil)) (gName 18)
    (tSeq (tAsg (tOp (rIxL e.K) (tVar 14) (tVar 18)) (gName 19))
    (tSeq (tAsg (tOp (rIxT e.K) (tVar 19) (tC (.int 2))) (gName 20))
    (tSeq (tIfS (tTest (tOp rEq (tVar 18) (tVar 15)))
    (tSeq (tAsg (tMeth e.Caches "copy" (sp_Caches_copy e) [] C8.E0 (tVar 11) tNil) (gName 16))
    (tAsg (tCall (sp_law_copies e) [] C8.E0 (tCons (tVar 13) tNil)) (gName 17)))
    tNext)
    (tSeq (tAsg (tCall (sp_law_own e) [] C8.E0 (tCons (tVar 3) (tCons (tOp (rIxL e.K) (tVar 13) (tVar 20)) (tCons (tVar 19) tNil)))) (gName 21))
    (tSeq (tIfS (tOr (tNot (tB (tCall (sp_law_same e) [] C8.E0 (tCons (tCall (sp_law_answer e) [] C8.E0 (tCons (tVar 11) (tCons (tVar 19) (tCons (tVar 20) tNil)))) (tCons (tVar 21) tNil))))) (tNot (tB (tCall (sp_law_same e) [] C8.E0 (tCons (tCall (sp_law_answer e) [] C8.E0 (tCons (tOp (rIxL e.K) (tVar 12) (tVar 20)) (tCons (tVar 19) (tCons (tC (.int 0)) tNil)))) (tCons (tVar 21) tNil))))))
    (tRet (tC (.bl false)))
    tNext)
    (tSeq (tIfS (tOr (tNot (tB (tCall (sp_law_stands e) [] C8.E0 (tCons (tVar 11) (tCons (tVar 13) (tCons (tVar 5) (tCons (tOp rEq (tOp (rI (fun _ j => 0 < j) fun i j => .int (i % j)) (tCB rInt1 (tCons (tVar 18) tNil)) (tC (.int 6))) (tC (.int 0))) tNil))))))) (tNot (tB (tCall (sp_law_stands e) [] C8.E0 (tCons (tOp (rIxL e.K) (tVar 12) (tVar 20)) (tCons (tLst (tCons (tOp (rIxL e.K) (tVar 13) (tVar 20)) tNil)) (tCons (tVar 5) (tCons (tC (.bl false)) tNil))))))))
    (tRet (tC (.bl false)))
    tNext)
    (tIfS (tOr (tNot (tB (tCall (sp_law_same e) [] C8.E0 (tCons (tMeth e.Caches "state_of" (sp_Caches_state_of e) [] C8.E0 (tVar 11) (tCons (tOp (rIxT e.K) (tVar 19) (tC (.int 1))) (tCons (tVar 20) tNil))) (tCons (tOp (rIxL e.K) (tOp (rIxL e.K) (tOp (rIxL e.K) (tVar 13) (tVar 20)) (tC (.int 0))) (tOp (rIxT e.K) (tVar 19) (tC (.int 1)))) tNil))))) (tNot (tB (tCall (sp_law_same e) [] C8.E0 (tCons (tMeth e.Caches "copy_of" (sp_Caches_copy_of e) [] C8.E0 (tVar 11) (tCons (tOp (rIxT e.K) (tVar 19) (tC (.int 1))) (tCons (tVar 20) tNil))) (tCons (tOp (rIxL e.K) (tOp (rIxL e.K) (tOp (rIxL e.K) (tVar 13) (tVar 20)) (tC (.int 1))) (tOp (rIxT e.K) (tVar 19) (tC (.int 1)))) tNil))))))
    (tRet (tC (.bl false)))
    tNext))))))))
    (tSeq (tIfS (tOr (tNot (tB (tCall (sp_law_ended e) [] C8.E0 (tCons (tVar 3) (tCons (tVar 11) (tCons (tVar 12) (tCons (tVar 13) (tCons (tVar 5) tNil)))))))) (tNot (tB (tCall (sp_law_stands e) [] C8.E0 (tCons (tVar 16) (tCons (tVar 17) (tCons (tVar 5) (tCons (tC (.bl true)) tNil))))))))
    (tRet (tC (.bl false)))
    tNext)
    (tSeq (tAsg (tOp (rIxL e.K) (tVar 14) (tUn (rU fun i => .int (-i)) (tC (.int 1)))) (gName 19))
    (tSeq (tIfS (tNot (tB (tCall (sp_law_same e) [] C8.E0 (tCons (tCall (sp_law_answer e) [] C8.E0 (tCons (tVar 16) (tCons (tVar 19) (tCons (tOp (rIxT e.K) (tVar 19) (tC (.int 2))) tNil)))) (tCons (tCall (sp_law_own e) [] C8.E0 (tCons (tVar 3) (tCons (tOp (rIxL e.K) (tVar 17) (tOp (rIxT e.K) (tVar 19) (tC (.int 2)))) (tCons (tVar 19) tNil)))) tNil)))))
    (tRet (tC (.bl false)))
    tNext)
    (tRet (tAndV (tCall (sp_law_stands e) [] C8.E0 (tCons (tVar 16) (tCons (tVar 17) (tCons (tVar 5) (tCons (tC (.bl true)) tNil))))) (tCall (sp_law_stands e) [] C8.E0 (tCons (tVar 11) (tCons (tVar 13) (tCons (tVar 5) (tCons (tC (.bl true)) tNil))))))))))))))))))))))))))))
def N_law : List Str := ["script", "table", "protocol", "p", "shape", "count", "first", "second", "names", "words", "memory", "caches", "parts", "lines", "accesses", "cut", "other", "mine", "k", "a", "w", "due", "x", "word"]
end Cm
set_option maxHeartbeats 1000000
/-! Words for readings: loops, comprehensions, values, over Val, Ans and st_* of the layer. -/
namespace Cm
open PySem PySem.Spec L2
section
variable {K : PySem.W.Frag} {σ : L2.St} {H : Hp} {D : Ends} {tl te ta tb : TE} {tt : TT} {ts : TS} {a : Addr} {xs : List V} {j : Nat} {vs : List Nat}
/-- for x in a list that stands -/
theorem st_forL (hl : Val tl σ H (.ref a)) (hx : H a = some (.lst xs)) (Pv : Nat → L2.St → Hp → Prop) (h0 : Pv 0 σ H) (hk : ∀ i σ H, i ≤ xs.length → Pv i σ H → H a = some (.lst xs))
    (hs : ∀ i x σ H, xs[i]? = some x → Pv i σ H → ts { D with nx := Pv (i + 1), ct := Pv (i + 1), bk := D.nx } (σ.set j (some x)) H) (hd : ∀ σ H, Pv xs.length σ H → D.nx σ H) : tFor (iList K tl) (gName j) ts D σ H :=
  hl _ ⟨a, rfl, ⟨_, SqL.of hx⟩, for_list (K := K) (a := a) (xs := xs) Pv h0 (fun i σ H hi p => SqL.of (hk i σ H hi p)) hs hd⟩
theorem st_forS (hl : Val tl σ H (.ref a)) (hx : SqL K H a xs) (Pv : Nat → L2.St → Hp → Prop) (h0 : Pv 0 σ H) (hk : ∀ i σ H, i ≤ xs.length → Pv i σ H → SqL K H a xs)
    (hs : ∀ i x σ H, xs[i]? = some x → Pv i σ H → ts { D with nx := Pv (i + 1), ct := Pv (i + 1), bk := D.nx } (σ.set j (some x)) H) (hd : ∀ σ H, Pv xs.length σ H → D.nx σ H) : tFor (iList K tl) (gName j) ts D σ H :=
  hl _ ⟨a, rfl, ⟨_, hx⟩, for_list (K := K) (a := a) (xs := xs) Pv h0 hk hs hd⟩
/-- for x in range(n) -/
theorem st_forR {n : Nat} (hn : Val te σ H (.int (n : Int))) (hb : n ≤ 1000000) (Pv : Nat → L2.St → Hp → Prop) (h0 : Pv 0 σ H)
    (hs : ∀ i σ H, i < n → Pv i σ H → ts { D with nx := Pv (i + 1), ct := Pv (i + 1), bk := D.nx } (σ.set j (some (.int (i : Int)))) H) (hd : ∀ σ H, Pv n σ H → D.nx σ H) : tFor (iRng1 (tCons te tNil)) (gName j) ts D σ H :=
  hn _ ⟨(n : Int), rfl, by omega, by omega, for_range (lo := 0) (n := ((n : Int)).toNat) Pv h0 (fun i σ H hi p => by
    rw [Int.toNat_natCast] at hi
    have q := hs i σ H hi p
    rw [← Int.zero_add (i : Int)] at q
    exact q) (fun σ H p => hd σ H (by rw [Int.toNat_natCast] at p; exact p))⟩
theorem st_forRL {n lo : Nat} (hl : Val ta σ H (.int (lo : Int))) (hn : Val te σ H (.int ((lo + n : Nat) : Int))) (hb : lo + n ≤ 1000000) (Pv : Nat → L2.St → Hp → Prop) (h0 : Pv 0 σ H)
    (hs : ∀ i σ H, i < n → Pv i σ H → ts { D with nx := Pv (i + 1), ct := Pv (i + 1), bk := D.nx } (σ.set j (some (.int ((lo + i : Nat) : Int)))) H) (hd : ∀ σ H, Pv n σ H → D.nx σ H) : tFor (iRng2 (tCons ta (tCons te tNil))) (gName j) ts D σ H :=
  hl _ (hn _ ⟨(lo : Int), ((lo + n : Nat) : Int), rfl, ⟨by omega, by omega, by omega, by omega⟩, by
    have e : (((lo + n : Nat) : Int) - (lo : Int)).toNat = n := by omega
    rw [e]
    exact for_range (lo := (lo : Int)) (n := n) Pv h0 (fun i σ H hi p => by
      have q := hs i σ H hi p
      have e2 : ((lo + i : Nat) : Int) = (lo : Int) + (i : Int) := by omega
      rw [e2] at q
      exact q) hd⟩)
/-- [e for x in a list if t], e and t without traces -/
theorem v_lcS {keep : V → Bool} {el : V → V} (hl : Val tl σ H (.ref a)) (hx : SqL K H a xs) (hz : xs.length ≤ 100000) (hst : ∀ L, H L = none → ∀ o, SqL K (upd H L o) a xs)
    (ht : ∀ x L acc, x ∈ xs → H L = none → Ans tt ((wipe σ vs).set j (some x)) (upd H L (.lst acc)) (keep x)) (he : ∀ x L acc, x ∈ xs → keep x = true → H L = none → Val te ((wipe σ vs).set j (some x)) (upd H L (.lst acc)) (el x))
    (hw : ∀ x, wipe ((wipe σ vs).set j (some x)) vs = wipe σ vs) {Q : VK} (q : ∀ L, H L = none → Q (.ref L) (upd H L (.lst ((xs.filter keep).map el)))) : tLc (iList K tl) (gName j) tt te vs σ H Q := by
  refine hl _ ⟨a, rfl, ⟨_, hx⟩, fun L hL => lc_list (K := K) (a := a) (xs := xs) (fun i H' => H' = upd H L (.lst (((xs.take i).filter keep).map el))) ?_ ?_ ?_ ?_⟩
  · show _ = _
    rw [List.take_zero] <;> rfl
  · intro i H' _ e
    rw [e]
    exact hst L hL _
  · intro i x H' hx e
    subst e
    refine ⟨hw x, ht x L _ (List.mem_of_getElem? hx) hL _ ?_⟩
    have e1 : xs.take (i + 1) = xs.take i ++ [x] := by rw [List.take_add_one, hx] <;> rfl
    by_cases hk : keep x = true
    · rw [hk]
      refine iteT (he x L _ (List.mem_of_getElem? hx) hk hL _ ⟨_, upd_same, ?_, ?_⟩)
      · rw [List.length_map]
        have h1 := List.length_filter_le keep (xs.take i)
        have h2 : (xs.take i).length ≤ xs.length := List.length_take_le' ..
        exact Nat.lt_of_le_of_lt (Nat.le_trans h1 (Nat.le_trans h2 hz)) (by decide)
      · show upd _ _ _ = _
        rw [upd_upd, e1, List.filter_append, List.map_append, List.filter_cons, if_pos hk] <;> rfl
    · have hk2 : keep x = false := by cases h : keep x <;> first | rfl | exact absurd h hk
      rw [hk2]
      refine iteF ?_
      show upd _ _ _ = upd _ _ _
      rw [e1, List.filter_append, List.filter_cons, if_neg hk, List.filter_nil, List.append_nil]
  · intro H' e
    rw [List.take_length] at e
    rw [e]
    exact q L hL
theorem v_lcL {keep : V → Bool} {el : V → V} (hl : Val tl σ H (.ref a)) (hx : H a = some (.lst xs)) (hz : xs.length ≤ 100000)
    (ht : ∀ x L acc, x ∈ xs → H L = none → Ans tt ((wipe σ vs).set j (some x)) (upd H L (.lst acc)) (keep x)) (he : ∀ x L acc, x ∈ xs → keep x = true → H L = none → Val te ((wipe σ vs).set j (some x)) (upd H L (.lst acc)) (el x))
    (hw : ∀ x, wipe ((wipe σ vs).set j (some x)) vs = wipe σ vs) {Q : VK} (q : ∀ L, H L = none → Q (.ref L) (upd H L (.lst ((xs.filter keep).map el)))) : tLc (iList K tl) (gName j) tt te vs σ H Q :=
  v_lcS hl (SqL.of hx) hz (fun L hL o => SqL.of (by rw [upd_ne (ne_of_none hx hL)]; exact hx)) ht he hw q
/-- .. over range(n) -/
theorem v_lcR {n : Nat} {keep : Nat → Bool} {el : Nat → V} (hn : Val ta σ H (.int (n : Int))) (hb : n ≤ 100000)
    (ht : ∀ i L acc, i < n → H L = none → Ans tt ((wipe σ vs).set j (some (.int (i : Int)))) (upd H L (.lst acc)) (keep i)) (he : ∀ i L acc, i < n → keep i = true → H L = none → Val te ((wipe σ vs).set j (some (.int (i : Int)))) (upd H L (.lst acc)) (el i))
    (hw : ∀ x, wipe ((wipe σ vs).set j (some x)) vs = wipe σ vs) {Q : VK} (q : ∀ L, H L = none → Q (.ref L) (upd H L (.lst (((List.range n).filter keep).map el)))) : tLc (iRng1 (tCons ta tNil)) (gName j) tt te vs σ H Q := by
  refine hn _ ⟨(n : Int), rfl, by omega, by omega, ?_⟩
  intro L hL
  refine lc_range (lo := 0) (n := ((n : Int)).toNat) (fun i H' => H' = upd H L (.lst (((List.range i).filter keep).map el))) ?_ ?_ ?_
  · rfl
  · intro i H' hi e
    rw [Int.toNat_natCast] at hi
    subst e
    rw [Int.zero_add]
    refine ⟨hw _, ht i L _ hi hL _ ?_⟩
    by_cases hk : keep i = true
    · rw [hk]
      refine iteT (he i L _ hi hk hL _ ⟨_, upd_same, ?_, ?_⟩)
      · rw [List.length_map]
        have h1 := List.length_filter_le keep (List.range i)
        rw [List.length_range] at h1
        exact Nat.lt_of_le_of_lt (Nat.le_trans h1 (by omega : i ≤ 100000)) (by decide)
      · show upd _ _ _ = _
        rw [upd_upd, List.range_succ, List.filter_append, List.map_append, List.filter_cons, if_pos hk] <;> rfl
    · have hk2 : keep i = false := by cases h : keep i <;> first | rfl | exact absurd h hk
      rw [hk2]
      refine iteF ?_
      show upd _ _ _ = upd _ _ _
      rw [List.range_succ, List.filter_append, List.filter_cons, if_neg hk, List.filter_nil, List.append_nil]
  · intro H' e
    rw [Int.toNat_natCast] at e
    rw [e]
    exact q L hL
theorem a_yes : Ans tYes σ H true := fun Q q => q
/-! ### values -/
theorem v_lenL (ha : Val ta σ H (.ref a)) (hx : H a = some (.lst xs)) : Val (tCB (rLenSeq K) (tCons ta tNil)) σ H (.int (xs.length : Int)) := fun Q q => ha _ ⟨a, xs, rfl, Or.inl (SqL.of hx), q⟩
theorem v_lenS (ha : Val ta σ H (.ref a)) (hx : SqL K H a xs) : Val (tCB (rLenSeq K) (tCons ta tNil)) σ H (.int (xs.length : Int)) := fun Q q => ha _ ⟨a, xs, rfl, Or.inl hx, q⟩
theorem v_lenT (ha : Val ta σ H (.ref a)) (hx : SqT K H a xs) : Val (tCB (rLenSeq K) (tCons ta tNil)) σ H (.int (xs.length : Int)) := fun Q q => ha _ ⟨a, xs, rfl, Or.inr hx, q⟩
theorem v_int {z : Int} (ha : Val ta σ H (.int z)) : Val (tCB rInt1 (tCons ta tNil)) σ H (.int z) := fun Q q => ha _ (Or.inl ⟨z, rfl, q⟩)
theorem v_intB {b : Bool} (ha : Val ta σ H (.bl b)) : Val (tCB rInt1 (tCons ta tNil)) σ H (.int (if b then 1 else 0)) := fun Q q => ha _ (Or.inr ⟨b, rfl, q⟩)
theorem v_abs {z : Int} (ha : Val ta σ H (.int z)) : Val (tCB rAbs (tCons ta tNil)) σ H (.int (if z < 0 then -z else z)) := fun Q q => ha _ ⟨z, rfl, q⟩
theorem v_I0 {g : Int → Int → V} {x y : Int} (ha : Val ta σ H (.int x)) (hb : Val tb σ H (.int y)) : Val (tOp (rI0 g) ta tb) σ H (g x y) := val_op ha hb fun Q q => ⟨x, y, rfl, rfl, q⟩
theorem v_I {C : Int → Int → Prop} {g : Int → Int → V} {x y : Int} (ha : Val ta σ H (.int x)) (hb : Val tb σ H (.int y)) (hc : C x y) : Val (tOp (rI C g) ta tb) σ H (g x y) := val_op ha hb fun Q q => ⟨x, y, rfl, rfl, hc, q⟩
theorem v_U {g : Int → V} {x : Int} (ha : Val ta σ H (.int x)) : Val (tUn (rU g) ta) σ H (g x) := fun Q q => ha _ ⟨x, rfl, q⟩
theorem v_is {v w : V} (h : Val te σ H v) (e : v = w) : Val te σ H w := e ▸ h
theorem a_I0 {p : Int → Int → Bool} {x y : Int} {b : Bool} (ha : Val ta σ H (.int x)) (hb : Val tb σ H (.int y)) (e : p x y = b) : Ans (tTest (tOp (rI0 fun i j => .bl (p i j)) ta tb)) σ H b :=
  ans_cmp ha hb fun Q q => ⟨x, y, rfl, rfl, by show Q (.bl (p x y)) H; rw [e]; exact q⟩
theorem a_lt {x y : Int} {b : Bool} (ha : Val ta σ H (.int x)) (hb : Val tb σ H (.int y)) (e : decide (x < y) = b) : Ans (tTest (tOp (rI0 fun i j => .bl (decide (i < j))) ta tb)) σ H b := a_I0 ha hb e
theorem a_le {x y : Int} {b : Bool} (ha : Val ta σ H (.int x)) (hb : Val tb σ H (.int y)) (e : decide (x ≤ y) = b) : Ans (tTest (tOp (rI0 fun i j => .bl (decide (i ≤ j))) ta tb)) σ H b := a_I0 ha hb e
theorem a_gt {x y : Int} {b : Bool} (ha : Val ta σ H (.int x)) (hb : Val tb σ H (.int y)) (e : decide (y < x) = b) : Ans (tTest (tOp (rI0 fun i j => .bl (decide (j < i))) ta tb)) σ H b := a_I0 (p := fun i j => decide (j < i)) ha hb e
theorem a_ge {x y : Int} {b : Bool} (ha : Val ta σ H (.int x)) (hb : Val tb σ H (.int y)) (e : decide (y ≤ x) = b) : Ans (tTest (tOp (rI0 fun i j => .bl (decide (j ≤ i))) ta tb)) σ H b := a_I0 (p := fun i j => decide (j ≤ i)) ha hb e
theorem a_B {b : Bool} (h : Val te σ H (.bl b)) : Ans (tB te) σ H b := ans_val h
/-- or of two tests -/
theorem a_or2 {t u : TT} {b1 b2 : Bool} (h1 : Ans t σ H b1) (h2 : Ans u σ H b2) : Ans (tOr t u) σ H (b1 || b2) := by
  cases b1 with
  | true => exact ans_or1 h1
  | false => exact ans_or h1 h2
/-- both ways of a test -/
theorem st_if {c : TT} {t1 t2 : TS} {b : Bool} (h : Ans c σ H b) (q1 : b = true → t1 D σ H) (q2 : b = false → t2 D σ H) : tIfS c t1 t2 D σ H := by
  cases b with
  | true => exact st_yes h (q1 rfl)
  | false => exact st_no h (q2 rfl)
theorem v_if {t : TT} {b : Bool} {v : V} (h : Ans t σ H b) (h1 : b = true → Val ta σ H v) (h2 : b = false → Val tb σ H v) : Val (tIf t ta tb) σ H v := fun Q q => h _ (by
  cases b with
  | true => exact iteT (h1 rfl _ q)
  | false => exact iteF (h2 rfl _ q))
/-- a call by its promise -/
theorem st_do {te : TE} (h : te σ H fun _ H1 => D.nx σ H1) : tDrop te D σ H := h
theorem st_asg {te : TE} {i : Nat} (h : te σ H fun v H1 => D.nx (σ.set i (some v)) H1) : tAsg te (gName i) D σ H := h
theorem st_rt {te : TE} (h : te σ H D.rt) : tRet te D σ H := h
theorem dec_int {a b : Int} : decide (V.int a = V.int b) = decide (a = b) := by
  by_cases h : a = b
  · rw [h, decide_eq_true rfl, decide_eq_true rfl]
  · rw [decide_eq_false h, decide_eq_false fun z => h (by injection z)]
theorem dec_str {a b : Str} : decide (V.str a = V.str b) = decide (a = b) := by
  by_cases h : a = b
  · rw [h, decide_eq_true rfl, decide_eq_true rfl]
  · rw [decide_eq_false h, decide_eq_false fun z => h (by injection z)]
theorem a_eqI {x y : Int} {b : Bool} (ha : Val ta σ H (.int x)) (hb : Val tb σ H (.int y)) (e : decide (x = y) = b) : Ans (tTest (tOp rEq ta tb)) σ H b := ans_eq ha hb rfl (by rw [dec_int]; exact e)
theorem a_neI {x y : Int} {b : Bool} (ha : Val ta σ H (.int x)) (hb : Val tb σ H (.int y)) (e : (!decide (x = y)) = b) : Ans (tTest (tOp rNe ta tb)) σ H b := ans_ne ha hb rfl (by rw [dec_int]; exact e)
theorem a_eqS {x y : Str} {b : Bool} (ha : Val ta σ H (.str x)) (hb : Val tb σ H (.str y)) (e : decide (x = y) = b) : Ans (tTest (tOp rEq ta tb)) σ H b := ans_eq ha hb rfl (by rw [dec_str]; exact e)
theorem a_neS {x y : Str} {b : Bool} (ha : Val ta σ H (.str x)) (hb : Val tb σ H (.str y)) (e : (!decide (x = y)) = b) : Ans (tTest (tOp rNe ta tb)) σ H b := ans_ne ha hb rfl (by rw [dec_str]; exact e)
end
end Cm
set_option maxHeartbeats 1000000
namespace Cm
open PySem PySem.Spec L2
section
variable {e : En} {H : Hp} {σ : L2.St} {count words : Nat} {r : CR} {pv : V} {X : Nat → Col} {i j k w : Nat} {tk tw : TE}
theorem v_var {v : V} (h : σ[i]? = some (some v)) : Val (tVar i) σ H v := val_var h
theorem v_ixL {ta tb : TE} {a : Addr} {xs : List V} {z : Nat} {v : V} (ha : Val ta σ H (.ref a)) (hb : Val tb σ H (.int (z : Int))) (hx : H a = some (.lst xs)) (hz : xs[z]? = some v) : Val (tOp (rIxL e.K) ta tb) σ H v :=
  val_op ha hb fun Q q => ⟨a, xs, _, v, rfl, rfl, SqL.of hx, atI_nat hz, q⟩
theorem v_ixT {ta tb : TE} {a : Addr} {xs : List V} {z : Nat} {v : V} (ha : Val ta σ H (.ref a)) (hb : Val tb σ H (.int (z : Int))) (hx : H a = some (.tup xs)) (hz : xs[z]? = some v) : Val (tOp (rIxT e.K) ta tb) σ H v :=
  val_op ha hb fun Q q => ⟨a, xs, _, v, rfl, rfl, SqT.of hx, atI_nat hz, q⟩
theorem v_fC (T : Tx e) {f : Str} {v : V} (hp : σ[i]? = some (some (.ref r.p))) (h : CAat e H count words r pv X) (na : NoAttr e.K e.Caches f) (hl : (cf pv (.ref r.m) (.ref r.S) (.ref r.C)).lookup f = some v) : Val (tFld e.K (tVar i) f) σ H v :=
  val_fld (val_var hp) h.ob T.cl_Caches na hl
theorem v_S (T : Tx e) (hp : σ[i]? = some (some (.ref r.p))) (h : CAat e H count words r pv X) : Val (tFld e.K (tVar i) "states") σ H (.ref r.S) := v_fC T hp h T.na_Caches_states cf_states
theorem v_C (T : Tx e) (hp : σ[i]? = some (some (.ref r.p))) (h : CAat e H count words r pv X) : Val (tFld e.K (tVar i) "copies") σ H (.ref r.C) := v_fC T hp h T.na_Caches_copies cf_copies
theorem v_M (T : Tx e) (hp : σ[i]? = some (some (.ref r.p))) (h : CAat e H count words r pv X) : Val (tFld e.K (tVar i) "memory") σ H (.ref r.m) := v_fC T hp h T.na_Caches_memory cf_memory
theorem v_P (T : Tx e) (hp : σ[i]? = some (some (.ref r.p))) (h : CAat e H count words r pv X) : Val (tFld e.K (tVar i) "protocol") σ H pv := v_fC T hp h T.na_Caches_protocol cf_protocol
theorem v_Sk (T : Tx e) (hp : σ[i]? = some (some (.ref r.p))) (h : CAat e H count words r pv X) (hk : Val tk σ H (.int (k : Int))) (lk : k < count) : Val (tOp (rIxL e.K) (tFld e.K (tVar i) "states") tk) σ H (.ref (r.sk k)) :=
  v_ixL (v_S T hp h) hk h.hS (row_get (g := V.ref) lk)
theorem v_Ck (T : Tx e) (hp : σ[i]? = some (some (.ref r.p))) (h : CAat e H count words r pv X) (hk : Val tk σ H (.int (k : Int))) (lk : k < count) : Val (tOp (rIxL e.K) (tFld e.K (tVar i) "copies") tk) σ H (.ref (r.ck k)) :=
  v_ixL (v_C T hp h) hk h.hC (row_get (g := V.ref) lk)
theorem v_Skw (T : Tx e) (hp : σ[i]? = some (some (.ref r.p))) (h : CAat e H count words r pv X) (hk : Val tk σ H (.int (k : Int))) (lk : k < count) (hw : Val tw σ H (.int (w : Int))) (lw : w < words) :
    Val (tOp (rIxL e.K) (tOp (rIxL e.K) (tFld e.K (tVar i) "states") tk) tw) σ H (.int ((X w).s k : Nat)) := v_ixL (v_Sk T hp h hk lk) hw (h.hs k lk) (row_get (g := fun k : Nat => V.int (k : Int)) lw)
theorem v_Ckw (T : Tx e) (hp : σ[i]? = some (some (.ref r.p))) (h : CAat e H count words r pv X) (hk : Val tk σ H (.int (k : Int))) (lk : k < count) (hw : Val tw σ H (.int (w : Int))) (lw : w < words) :
    Val (tOp (rIxL e.K) (tOp (rIxL e.K) (tFld e.K (tVar i) "copies") tk) tw) σ H (.int ((X w).c k)) := v_ixL (v_Ck T hp h hk lk) hw (h.hc k lk) (row_get (g := V.int) lw)
theorem v_Mw (T : Tx e) (hp : σ[i]? = some (some (.ref r.p))) (h : CAat e H count words r pv X) (hw : Val tw σ H (.int (w : Int))) (lw : w < words) :
    Val (tOp (rIxL e.K) (tFld e.K (tVar i) "memory") tw) σ H (.int (X w).m) := v_ixL (v_M T hp h) hw h.hm (row_get (g := V.int) lw)
/-- stores -/
theorem st_setS (T : Tx e) {D : Ends} {v : Nat} {te : TE} (hv : Val te σ H (.int (v : Int))) (hp : σ[i]? = some (some (.ref r.p))) (h : CAat e H count words r pv X) (hk : Val tk σ H (.int (k : Int))) (lk : k < count) (hw : Val tw σ H (.int (w : Int))) (lw : w < words)
    (q : ∀ H', CAat e H' count words r pv (setW X w { X w with s := fset (X w).s k v }) → Fr (r.dom count) H H' → D.nx σ H') : tAsg te (gSub (tOp (rIxL e.K) (tFld e.K (tVar i) "states") tk) tw rSetL) D σ H :=
  hv _ (v_Sk T hp h hk lk _ (hw _ ⟨r.sk k, _, _, w, rfl, rfl, h.hs k lk, row_ix lw, q _ (h.setS lw lk) (Fr.upd (CR.msk lk))⟩))
theorem st_setC (T : Tx e) {D : Ends} {v : Int} {te : TE} (hv : Val te σ H (.int v)) (hp : σ[i]? = some (some (.ref r.p))) (h : CAat e H count words r pv X) (hk : Val tk σ H (.int (k : Int))) (lk : k < count) (hw : Val tw σ H (.int (w : Int))) (lw : w < words)
    (q : ∀ H', CAat e H' count words r pv (setW X w { X w with c := fset (X w).c k v }) → Fr (r.dom count) H H' → D.nx σ H') : tAsg te (gSub (tOp (rIxL e.K) (tFld e.K (tVar i) "copies") tk) tw rSetL) D σ H :=
  hv _ (v_Ck T hp h hk lk _ (hw _ ⟨r.ck k, _, _, w, rfl, rfl, h.hc k lk, row_ix lw, q _ (h.setC lw lk) (Fr.upd (CR.mck lk))⟩))
theorem st_setM (T : Tx e) {D : Ends} {v : Int} {te : TE} (hv : Val te σ H (.int v)) (hp : σ[i]? = some (some (.ref r.p))) (h : CAat e H count words r pv X) (hw : Val tw σ H (.int (w : Int))) (lw : w < words)
    (q : ∀ H', CAat e H' count words r pv (setW X w { X w with m := v }) → Fr (r.dom count) H H' → D.nx σ H') : tAsg te (gSub (tFld e.K (tVar i) "memory") tw rSetL) D σ H :=
  hv _ (v_M T hp h _ (hw _ ⟨r.m, _, _, w, rfl, rfl, h.hm, row_ix lw, q _ (h.setM lw) (Fr.upd CR.mm)⟩))
end
section
variable {e : En} (T : Tx e)
include T
theorem p_state_of (vs : List V) (H : Hp) (Q : VK) (E : XK) (h : sp_Caches_state_of e vs H Q E) : t_Caches_state_of e { nx := fun _ H' => Q .non H', rt := Q } (start N_Caches_state_of vs) H := by
  obtain ⟨count, words, r, pv, X, k, w, rfl, ca, lk, lw, q⟩ := h
  exact st_ret (v_Skw T rfl ca (v_var rfl) lk (v_var rfl) lw) q
theorem p_copy_of (vs : List V) (H : Hp) (Q : VK) (E : XK) (h : sp_Caches_copy_of e vs H Q E) : t_Caches_copy_of e { nx := fun _ H' => Q .non H', rt := Q } (start N_Caches_copy_of vs) H := by
  obtain ⟨count, words, r, pv, X, k, w, rfl, ca, lk, lw, q⟩ := h
  exact st_ret (v_Ckw T rfl ca (v_var rfl) lk (v_var rfl) lw) q
theorem p_move (vs : List V) (H : Hp) (Q : VK) (E : XK) (h : sp_Caches_move e vs H Q E) : t_Caches_move e { nx := fun _ H' => Q .non H', rt := Q } (start N_Caches_move vs) H := by
  obtain ⟨count, words, r, pv, X, k, w, v, rfl, ca, lk, lw, q⟩ := h
  refine st_seq (st_setS T (v_var rfl) rfl ca (v_var rfl) lk (v_var rfl) lw fun H1 ca1 f1 => ?_)
  by_cases hv : v = 0
  · subst hv
    refine st_yes (ans_eq (v_var rfl) val_c rfl rfl) (st_setC T val_c rfl ca1 (v_var rfl) lk (v_var rfl) lw fun H2 ca2 f2 => ?_)
    rw [setW_setW, setW_same] at ca2
    exact q _ ca2 (f1.trans f2)
  · refine st_no (ans_eq (v_var rfl) val_c rfl (decide_eq_false fun z => hv (by injection z with z; omega))) (st_next (q _ ?_ f1))
    have e1 : mvC k v (X w) = { X w with s := fset (X w).s k v } := by
      unfold mvC
      rw [if_neg hv]
    rw [e1]
    exact ca1
end
end Cm
set_option maxHeartbeats 1000000
namespace Cm
open PySem PySem.Spec L2
/-! ### arguments, methods of a Caches -/
def Arg (t : TA) (σ : L2.St) (H : Hp) (vs : List V) : Prop := ∀ Q : List V → Hp → Prop, Q vs H → t σ H Q
section
variable {e : En} {H H' : Hp} {σ : L2.St} {count words : Nat} {r : CR} {pv : V} {X : Nat → Col} {i j k w : Nat} {t : TA} {te : TE} {vs : List V} {v : V}
theorem arg_nil : Arg tNil σ H [] := fun Q q => q
theorem arg_cons (h : Val te σ H v) (ht : Arg t σ H vs) : Arg (tCons te t) σ H (v :: vs) := fun Q q => h _ (ht _ q)
theorem v_meth {m : Str} {sp : Sp} {Q : VK} (hp : σ[i]? = some (some (.ref r.p))) (h : CAat e H count words r pv X) (hl : (cf pv (.ref r.m) (.ref r.S) (.ref r.C)).lookup m = none) (ha : Arg t σ H vs)
    (q : sp (.ref r.p :: (vs ++ [])) H Q C8.E0) : tMeth e.Caches m sp [] C8.E0 (tVar i) t σ H Q := ⟨_, hp, r.p, r.dx, _, rfl, h.ob, hl, ha _ q⟩
theorem v_call {sp : Sp} {Q : VK} (ha : Arg t σ H vs) (q : sp (vs ++ []) H Q C8.E0) : tCall sp [] C8.E0 t σ H Q := ha _ q
theorem CAat.there (h : CAat e H count words r pv X) {b : Addr} (hb : b ∈ r.dom count) : ∃ o, H b = some o := by
  unfold CR.dom at hb
  simp only [List.mem_cons, List.mem_append, List.mem_map, List.mem_range] at hb
  rcases hb with rfl | rfl | rfl | rfl | ⟨k, hk, rfl⟩ | ⟨k, hk, rfl⟩
  · exact ⟨_, h.ob⟩
  · exact ⟨_, h.hm⟩
  · exact ⟨_, h.hS⟩
  · exact ⟨_, h.hC⟩
  · exact ⟨_, h.hs k hk⟩
  · exact ⟨_, h.hc k hk⟩
theorem CAat.out (h : CAat e H count words r pv X) {a : Addr} (ha : H a = none) : a ∉ r.dom count := fun m => by
  obtain ⟨o, ho⟩ := h.there m
  rw [ha] at ho
  cases ho
end
/-! ### a Scheme's fields -/
section
variable {e : En} {H : Hp} {σ : L2.St} {r : SR} {p : Pr} {i k : Nat} {te tk : TE}
theorem v_fSc (T : Tx e) {f : Str} {v : V} (hp : Val te σ H (.ref r.a)) (h : SCat e H r p) (na : NoAttr e.K e.Scheme f) (hl : ∀ nm, (sf r nm p).lookup f = some v) : Val (tFld e.K te f) σ H v := by
  obtain ⟨nm, ho⟩ := h.ob
  exact val_fld hp ho T.cl_Scheme na (hl nm)
theorem v_write (T : Tx e) (hp : Val te σ H (.ref r.a)) (h : SCat e H r p) : Val (tFld e.K te "write") σ H (.ref r.wr) := v_fSc T hp h T.na_Scheme_write fun _ => rfl
theorem v_onread (T : Tx e) (hp : Val te σ H (.ref r.a)) (h : SCat e H r p) : Val (tFld e.K te "onread") σ H (.ref r.rd) := v_fSc T hp h T.na_Scheme_onread fun _ => rfl
theorem v_onsteal (T : Tx e) (hp : Val te σ H (.ref r.a)) (h : SCat e H r p) : Val (tFld e.K te "onsteal") σ H (.ref r.st) := v_fSc T hp h T.na_Scheme_onsteal fun _ => rfl
theorem v_giveread (T : Tx e) (hp : Val te σ H (.ref r.a)) (h : SCat e H r p) : Val (tFld e.K te "giveread") σ H (.ref r.gr) := v_fSc T hp h T.na_Scheme_giveread fun _ => rfl
theorem v_cleanread (T : Tx e) (hp : Val te σ H (.ref r.a)) (h : SCat e H r p) : Val (tFld e.K te "cleanread") σ H (.ref r.cr) := v_fSc T hp h T.na_Scheme_cleanread fun _ => rfl
theorem v_givesteal (T : Tx e) (hp : Val te σ H (.ref r.a)) (h : SCat e H r p) : Val (tFld e.K te "givesteal") σ H (.ref r.gs) := v_fSc T hp h T.na_Scheme_givesteal fun _ => rfl
theorem v_cleansteal (T : Tx e) (hp : Val te σ H (.ref r.a)) (h : SCat e H r p) : Val (tFld e.K te "cleansteal") σ H (.ref r.cs) := v_fSc T hp h T.na_Scheme_cleansteal fun _ => rfl
theorem v_writeback (T : Tx e) (hp : Val te σ H (.ref r.a)) (h : SCat e H r p) : Val (tFld e.K te "writeback") σ H (.ref r.bk) := v_fSc T hp h T.na_Scheme_writeback fun _ => rfl
theorem v_lone (T : Tx e) (hp : Val te σ H (.ref r.a)) (h : SCat e H r p) : Val (tFld e.K te "lone") σ H (.int (p.lone : Nat)) := v_fSc T hp h T.na_Scheme_lone fun _ => rfl
theorem v_shared (T : Tx e) (hp : Val te σ H (.ref r.a)) (h : SCat e H r p) : Val (tFld e.K te "shared") σ H (.int (p.shared : Nat)) := v_fSc T hp h T.na_Scheme_shared fun _ => rfl
theorem v_own (T : Tx e) (hp : Val te σ H (.ref r.a)) (h : SCat e H r p) : Val (tFld e.K te "own") σ H (.int (p.own : Nat)) := v_fSc T hp h T.na_Scheme_own fun _ => rfl
theorem v_through (T : Tx e) (hp : Val te σ H (.ref r.a)) (h : SCat e H r p) : Val (tFld e.K te "through") σ H (.bl p.thr) := v_fSc T hp h T.na_Scheme_through fun _ => rfl
end
/-! ### the mirror's lemmas -/
theorem cleaned_snoc {cl : Nat → Bool} {hs : List Nat} {k : Nat} {x : Col} : cleaned cl (hs ++ [k]) x = if cl (x.s k) = true then x.c k else cleaned cl hs x := by
  unfold cleaned
  rw [List.foldl_append] <;> rfl
theorem take_snoc {α : Type} {l : List α} {i : Nat} {x : α} (h : l[i]? = some x) : l.take (i + 1) = l.take i ++ [x] := by rw [List.take_add_one, h] <;> rfl
theorem holders_lt {count c k : Nat} {x : Col} (h : k ∈ holders count c x) : k < count ∧ k ≠ c ∧ 0 < x.s k := by
  unfold holders at h
  obtain ⟨h1, h2⟩ := List.mem_filter.mp h
  rw [Bool.and_eq_true, decide_eq_true_eq, decide_eq_true_eq] at h2
  exact ⟨List.mem_range.mp h1, h2⟩
theorem holders_nd {count c : Nat} {x : Col} : (holders count c x).Nodup := List.Pairwise.filter _ List.nodup_range
theorem not_mem_take {l : List Nat} {i k : Nat} (nd : l.Nodup) (h : l[i]? = some k) : k ∉ l.take i := fun m => by
  obtain ⟨j, hj⟩ := List.mem_iff_getElem?.mp m
  have hlt : j < i := by
    have := (List.getElem?_eq_some_iff.mp hj).1
    rw [List.length_take] at this
    omega
  rw [List.getElem?_take_of_lt hlt] at hj
  have := nd_ix nd hj h
  omega
theorem moved_nil {mv : Nat → Nat} {x : Col} : moved mv [] x = x := by
  unfold moved
  simp
theorem moved_s {mv : Nat → Nat} {hs : List Nat} {x : Col} {k : Nat} (h : k ∉ hs) : (moved mv hs x).s k = x.s k := if_neg h
theorem moved_c {mv : Nat → Nat} {hs : List Nat} {x : Col} {k : Nat} (h : k ∉ hs) : (moved mv hs x).c k = x.c k := if_neg fun z => h z.1
theorem moved_step {mv : Nat → Nat} {hs : List Nat} {x : Col} {i k : Nat} (nd : hs.Nodup) (h : hs[i]? = some k) : mvC k (mv (x.s k)) (moved mv (hs.take i) x) = moved mv (hs.take (i + 1)) x := by
  have hn := not_mem_take nd h
  rw [take_snoc h]
  unfold mvC moved
  congr 1
  · funext j
    unfold fset
    by_cases hj : j = k
    · subst hj
      simp
    · simp [hj]
  · by_cases hv : mv (x.s k) = 0
    · rw [if_pos hv]
      funext j
      unfold fset
      by_cases hj : j = k
      · subst hj
        simp [hv]
      · simp [hj]
    · rw [if_neg hv]
      funext j
      by_cases hj : j = k
      · subst hj
        simp [hn, hv]
      · simp [hj]
section
variable {e : En} (T : Tx e)
include T
theorem p_others (vs : List V) (H : Hp) (Q : VK) (E : XK) (h : sp_Caches_others e vs H Q E) : t_Caches_others e { nx := fun _ H' => Q .non H', rt := Q } (start N_Caches_others vs) H := by
  obtain ⟨count, words, r, pv, X, c, w, rfl, ca, lw, hc, q⟩ := h
  refine st_rt (v_lcR (n := count) (keep := fun k => decide (k ≠ c) && decide (0 < (X w).s k)) (el := fun k : Nat => V.int (k : Int)) ?_ (by omega) ?_ ?_ (fun _ => rfl) fun L hL => ?_)
  · exact v_is (v_lenL (v_S T rfl ca) ca.hS) (by rw [row_len])
  · intro i L acc hi hL
    have ca1 := ca.same (Same.new (o := .lst acc) hL)
    refine ans_and2 (a_neI (v_var rfl) (v_var rfl) ?_) (a_gt (v_Skw T rfl ca1 (v_var rfl) hi (v_var rfl) lw) val_c ?_)
    · by_cases z : i = c
      · subst z; simp
      · have : ¬ (i : Int) = (c : Int) := by omega
        simp [z, this]
    · by_cases z : 0 < (X w).s i
      · have : (0 : Int) < ((X w).s i : Int) := by omega
        simp [z, this]
      · have : ¬ (0 : Int) < ((X w).s i : Int) := by omega
        simp [z, this]
  · intro i L acc hi hk hL
    exact v_var rfl
  · exact q L _ hL (Same.new hL) upd_same
theorem p_clean (vs : List V) (H : Hp) (Q : VK) (E : XK) (h : sp_Caches_clean e vs H Q E) : t_Caches_clean e { nx := fun _ H' => Q .non H', rt := Q } (start N_Caches_clean vs) H := by
  obtain ⟨count, words, r, pv, X, hl, fl, w, n, hs, cl, rfl, ca, lw, hh, hf, hk, nh, nf, q⟩ := h
  refine st_forL (v_var rfl) hh (fun i σ H' => (∃ v, σ = [some (.ref r.p), some (.ref hl), some (.int (w : Int)), some (.ref fl), v]) ∧ CAat e H' count words r pv (setW X w { X w with m := cleaned cl (hs.take i) (X w) }) ∧ Fr (r.dom count) H H') ⟨⟨_, rfl⟩, ?_, Fr.refl _ _⟩ ?_ ?_ ?_
  · have e0 : ({ X w with m := cleaned cl (hs.take 0) (X w) } : Col) = X w := rfl
    rw [e0, setW_id]
    exact ca
  · intro i σ H' _ ⟨_, _, f⟩
    exact f _ _ hh nh
  · rintro i x σ H' hx ⟨⟨v, rfl⟩, ca1, f⟩
    rw [List.getElem?_map] at hx
    obtain ⟨k, hk1, rfl⟩ := Option.map_eq_some_iff.mp hx
    obtain ⟨lk, ln⟩ := hk k (List.mem_of_getElem? hk1)
    have es : ((setW X w { X w with m := cleaned cl (hs.take i) (X w) }) w).s k = (X w).s k := by rw [setW_same]
    have ec : ((setW X w { X w with m := cleaned cl (hs.take i) (X w) }) w).c k = (X w).c k := by rw [setW_same]
    have h1 := v_Skw (σ := [some (.ref r.p), some (.ref hl), some (.int (w : Int)), some (.ref fl), some (.int (k : Int))]) (tk := tVar 4) (tw := tVar 2) (i := 0) T rfl ca1 (v_var rfl) lk (v_var rfl) lw
    rw [es] at h1
    have h2 := v_Ckw (σ := [some (.ref r.p), some (.ref hl), some (.int (w : Int)), some (.ref fl), some (.int (k : Int))]) (tk := tVar 4) (tw := tVar 2) (i := 0) T rfl ca1 (v_var rfl) lk (v_var rfl) lw
    rw [ec] at h2
    refine st_if (b := cl ((X w).s k)) (a_B (v_ixL (v_var rfl) h1 (f _ _ hf nf) (row_get (g := V.bl) (by omega)))) (fun hb => ?_) (fun hb => ?_)
    · refine st_setM T h2 rfl ca1 (v_var rfl) lw fun H2 ca2 f2 => ⟨⟨_, rfl⟩, ?_, f.trans f2⟩
      rw [setW_setW, setW_same] at ca2
      rw [take_snoc hk1, cleaned_snoc, if_pos hb]
      exact ca2
    · refine st_next ⟨⟨_, rfl⟩, ?_, f⟩
      rw [take_snoc hk1, cleaned_snoc, if_neg (by rw [hb]; exact Bool.false_ne_true)]
      exact ca1
  · rintro σ H' ⟨⟨v, rfl⟩, ca1, f⟩
    rw [List.length_map, List.take_length] at ca1
    exact q H' ca1 f
theorem p_fetched (vs : List V) (H : Hp) (Q : VK) (E : XK) (h : sp_Caches_fetched e vs H Q E) : t_Caches_fetched e { nx := fun _ H' => Q .non H', rt := Q } (start N_Caches_fetched vs) H := by
  obtain ⟨count, words, r, pv, X, hl, fl, w, n, hs, gv, rfl, ca, lw, hh, hf, hk, q⟩ := h
  refine st_seq (st_forL (v_var rfl) hh (fun i σ H' => (∃ v, σ = [some (.ref r.p), some (.ref hl), some (.int (w : Int)), some (.ref fl), v]) ∧ H' = H ∧ ∀ k, k ∈ hs.take i → gv ((X w).s k) = false) ⟨⟨_, rfl⟩, rfl, by simp⟩ ?_ ?_ ?_)
  · rintro i σ H' _ ⟨_, rfl, _⟩
    exact hh
  · rintro i x σ H' hx ⟨⟨v, rfl⟩, rfl, hno⟩
    rw [List.getElem?_map] at hx
    obtain ⟨k, hk1, rfl⟩ := Option.map_eq_some_iff.mp hx
    obtain ⟨lk, ln⟩ := hk k (List.mem_of_getElem? hk1)
    refine st_if (b := gv ((X w).s k)) (a_B (v_ixL (v_var rfl) (v_Skw T rfl ca (v_var rfl) lk (v_var rfl) lw) hf (row_get (g := V.bl) (by omega)))) (fun hb => ?_) (fun hb => ?_)
    · refine st_ret (v_Ckw T rfl ca (v_var rfl) lk (v_var rfl) lw) ?_
      have e1 : fetched gv hs (X w) (X w).m = (X w).c k := by
        unfold fetched given
        have e2 : hs.find? (fun k => gv ((X w).s k)) = some k := by
          rw [List.find?_eq_some_iff_getElem]
          obtain ⟨hi, hg⟩ := List.getElem?_eq_some_iff.mp hk1
          refine ⟨hb, i, hi, hg, fun j hj => ?_⟩
          have := hno (hs[j]'(by omega)) (List.mem_iff_getElem?.mpr ⟨j, by rw [List.getElem?_take_of_lt hj, List.getElem?_eq_getElem (by omega)]⟩)
          rw [this] <;> rfl
        rw [e2] <;> rfl
      show Q _ _
      rw [e1] at q
      exact q
    · refine st_next ⟨⟨_, rfl⟩, rfl, fun j hj => ?_⟩
      rw [take_snoc hk1, List.mem_append, List.mem_singleton] at hj
      rcases hj with hj | rfl
      · exact hno j hj
      · exact hb
  · rintro σ H' ⟨⟨v, rfl⟩, rfl, hno⟩
    rw [List.length_map, List.take_length] at hno
    refine st_ret (v_Mw T rfl ca (v_var rfl) lw) ?_
    have e1 : fetched gv hs (X w) (X w).m = (X w).m := by
      unfold fetched given
      have e2 : hs.find? (fun k => gv ((X w).s k)) = none := by
        rw [List.find?_eq_none]
        intro k hk3
        rw [hno k hk3]
        exact Bool.false_ne_true
      rw [e2] <;> rfl
    rw [e1] at q
    exact q
end
end Cm
set_option maxHeartbeats 1000000
/-! Plain facts of the mirror: what stays in range. -/
namespace Cm
open PySem PySem.Spec L2
def W64 (z : Int) : Prop := 0 ≤ z ∧ z < 2 ^ 64
theorem mrg_eq (o n : Int) (c : Nat) : mrg o n c =
    (if c / 2 ^ 0 % 2 = 1 then n else o) / 2 ^ (8 * 0) % 256 * 2 ^ (8 * 0) + ((if c / 2 ^ 1 % 2 = 1 then n else o) / 2 ^ (8 * 1) % 256 * 2 ^ (8 * 1) + ((if c / 2 ^ 2 % 2 = 1 then n else o) / 2 ^ (8 * 2) % 256 * 2 ^ (8 * 2) +
    ((if c / 2 ^ 3 % 2 = 1 then n else o) / 2 ^ (8 * 3) % 256 * 2 ^ (8 * 3) + ((if c / 2 ^ 4 % 2 = 1 then n else o) / 2 ^ (8 * 4) % 256 * 2 ^ (8 * 4) + ((if c / 2 ^ 5 % 2 = 1 then n else o) / 2 ^ (8 * 5) % 256 * 2 ^ (8 * 5) +
    ((if c / 2 ^ 6 % 2 = 1 then n else o) / 2 ^ (8 * 6) % 256 * 2 ^ (8 * 6) + ((if c / 2 ^ 7 % 2 = 1 then n else o) / 2 ^ (8 * 7) % 256 * 2 ^ (8 * 7) + 0))))))) := by
  unfold mrg
  rfl
theorem mrg_ok (o n : Int) (c : Nat) : W64 (mrg o n c) := by
  rw [mrg_eq]
  have b : ∀ x : Int, 0 ≤ x % 256 ∧ x % 256 < 256 := fun x => ⟨Int.emod_nonneg _ (by decide), Int.emod_lt_of_pos _ (by decide)⟩
  generalize (if c / 2 ^ 0 % 2 = 1 then n else o) / 2 ^ (8 * 0) = x0
  generalize (if c / 2 ^ 1 % 2 = 1 then n else o) / 2 ^ (8 * 1) = x1
  generalize (if c / 2 ^ 2 % 2 = 1 then n else o) / 2 ^ (8 * 2) = x2
  generalize (if c / 2 ^ 3 % 2 = 1 then n else o) / 2 ^ (8 * 3) = x3
  generalize (if c / 2 ^ 4 % 2 = 1 then n else o) / 2 ^ (8 * 4) = x4
  generalize (if c / 2 ^ 5 % 2 = 1 then n else o) / 2 ^ (8 * 5) = x5
  generalize (if c / 2 ^ 6 % 2 = 1 then n else o) / 2 ^ (8 * 6) = x6
  generalize (if c / 2 ^ 7 % 2 = 1 then n else o) / 2 ^ (8 * 7) = x7
  unfold W64
  omega
section
variable {n : Nat} {x : Col} {hs : List Nat} {p : Pr} {count c : Nat}
theorem cleaned_ok {cl : Nat → Bool} (h : x.Ok n) : ∀ hs, W64 (cleaned cl hs x) := by
  intro hs
  have key : ∀ (hs : List Nat) (m : Int), W64 m → W64 (hs.foldl (fun m k => if cl (x.s k) = true then x.c k else m) m) := by
    intro hs
    induction hs with
    | nil => intro m hm; exact hm
    | cons k r ih =>
      intro m hm
      rw [List.foldl_cons]
      refine ih _ ?_
      split
      · exact h.cb k
      · exact hm
  exact key hs _ h.mb
theorem fetched_ok {gv : Nat → Bool} {m : Int} (h : x.Ok n) (hm : W64 m) : W64 (fetched gv hs x m) := by
  unfold fetched given
  cases hs.find? (fun k => gv (x.s k)) with
  | none => exact hm
  | some k => exact h.cb k
theorem moved_ok {mv : Nat → Nat} (h : x.Ok n) (hmv : ∀ i, mv i ≤ n) : (moved mv hs x).Ok n := by
  refine ⟨fun k => ?_, fun k => ?_, fun k => ?_, h.mb⟩
  · show (if k ∈ hs then mv (x.s k) else x.s k) ≤ n
    split
    · exact hmv _
    · exact h.st k
  · show (if k ∈ hs then mv (x.s k) else x.s k) = 0 → (if k ∈ hs ∧ mv (x.s k) = 0 then 0 else x.c k) = 0
    intro z
    by_cases hk : k ∈ hs
    · rw [if_pos hk] at z
      rw [if_pos ⟨hk, z⟩]
    · rw [if_neg hk] at z
      rw [if_neg (fun q => hk q.1)]
      exact h.z k z
  · show 0 ≤ (if k ∈ hs ∧ mv (x.s k) = 0 then (0 : Int) else x.c k) ∧ (if k ∈ hs ∧ mv (x.s k) = 0 then (0 : Int) else x.c k) < 2 ^ 64
    split
    · decide
    · exact h.cb k
theorem put_ok {s : Nat} {v m : Int} (h : x.Ok n) (hs : s ≤ n) (h0 : s ≠ 0 ∨ v = 0) (hv : W64 v) (hm : W64 m) : (⟨fset x.s c s, fset x.c c v, m⟩ : Col).Ok n := by
  refine ⟨fun k => ?_, fun k => ?_, fun k => ?_, hm⟩
  · show fset x.s c s k ≤ n
    unfold fset
    split
    · exact hs
    · exact h.st k
  · show fset x.s c s k = 0 → fset x.c c v k = 0
    unfold fset
    split
    · intro z
      exact h0.resolve_left fun q => q z
    · exact h.z k
  · show 0 ≤ fset x.c c v k ∧ fset x.c c v k < 2 ^ 64
    unfold fset
    split
    · exact hv
    · exact h.cb k
theorem ldC_ok (hp : p.Ok) (h : x.Ok p.n) : (ldC p count c x).Ok p.n := by
  unfold ldC
  split
  · exact h
  · refine put_ok (moved_ok h hp.rd1) ?_ ?_ (fetched_ok h (cleaned_ok h _)) (cleaned_ok h _)
    · split
      · exact hp.shared1.2
      · exact hp.lone1.2
    · refine Or.inl ?_
      split
      · exact Nat.ne_of_gt hp.shared1.1
      · exact Nat.ne_of_gt hp.lone1.1
theorem stealC_ok (hp : p.Ok) (h : x.Ok p.n) : (stealC p count c x).Ok p.n := by
  have h1 := moved_ok (hs := holders count c x) h hp.st1
  unfold stealC
  by_cases hz : x.s c = 0
  · rw [if_pos hz]
    exact put_ok h1 hp.own1.2 (Or.inl (Nat.ne_of_gt hp.own1.1)) (fetched_ok h (cleaned_ok h _)) (cleaned_ok h _)
  · rw [if_neg hz]
    have h2 := put_ok (c := c) (s := p.own) (v := (moved p.st (holders count c x) x).c c) (m := cleaned p.cs (holders count c x) x) h1 hp.own1.2 (Or.inl (Nat.ne_of_gt hp.own1.1)) (h1.cb c) (cleaned_ok h _)
    rw [fset_id] at h2
    exact h2
theorem ownedC_ok (hp : p.Ok) (h : x.Ok p.n) : (ownedC p count c x).Ok p.n ∧ (ownedC p count c x).s c ≠ 0 := by
  unfold ownedC
  split
  · rename_i hw
    have h2 := put_ok (c := c) (s := p.wr (x.s c)) (v := x.c c) (m := x.m) h (hp.wr1 _) (Or.inl (Nat.ne_of_gt hw)) (h.cb c) h.mb
    rw [fset_id] at h2
    refine ⟨h2, ?_⟩
    show fset x.s c _ c ≠ 0
    rw [fset_same]
    exact Nat.ne_of_gt hw
  · refine ⟨stealC_ok hp h, ?_⟩
    show fset _ c _ c ≠ 0
    rw [fset_same]
    exact Nat.ne_of_gt hp.own1.1
theorem stC_ok {cov : Nat} {v : Int} (hp : p.Ok) (h : x.Ok p.n) : (stC p count c cov v x).Ok p.n := by
  obtain ⟨h1, h2⟩ := ownedC_ok (count := count) (c := c) hp h
  unfold stC
  have h3 := put_ok (c := c) (s := (ownedC p count c x).s c) (v := mrg ((ownedC p count c x).c c) v cov) (m := if p.thr = true then mrg ((ownedC p count c x).c c) v cov else (ownedC p count c x).m) h1 (h1.st c) (Or.inl h2) (mrg_ok _ _ _) (by
    split
    · exact mrg_ok _ _ _
    · exact h1.mb)
  rw [fset_id] at h3
  exact h3
theorem lvC_ok (h : x.Ok p.n) : (lvC p c x).Ok p.n := by
  unfold lvC
  split
  · refine put_ok h (Nat.zero_le _) (Or.inr rfl) ⟨by decide, by decide⟩ ?_
    split
    · exact h.cb c
    · exact h.mb
  · exact h
/-- a step keeps what is in range -/
theorem stepC_ok {α : Type} {pp : Option (α × Pr)} {a : Acc} (hp : ∀ q, pp = some q → q.2.Ok) (h : x.Ok (pN pp)) : (stepC (pp.map (·.2)) count a x).Ok (pN pp) := by
  obtain ⟨ak, ac, aw, acov, av⟩ := a
  match pp, hp, h with
  | none, hp, h =>
    match ak with
    | .load => exact h
    | .store => exact ⟨h.st, h.z, h.cb, mrg_ok _ _ _⟩
    | .leave => exact h
  | some (sr, p), hp, h =>
    match ak with
    | .load => exact ldC_ok (hp _ rfl) h
    | .store => exact stC_ok (hp _ rfl) h
    | .leave => exact lvC_ok h
end
end Cm
set_option maxHeartbeats 1000000
namespace Cm
open PySem PySem.Spec L2
section
variable {e : En} {H H' : Hp} {count words : Nat} {r : CR} {pp : Option (SR × Pr)} {pv : V} {X : Nat → Col} {sr : SR} {p : Pr}
theorem CPat.sc (h : CPat e H count words r (some (sr, p)) pv X) : pv = .ref sr.a ∧ SCat e H sr p ∧ p.Ok ∧ ∀ b, b ∈ sr.dom → b ∉ r.dom count := h.pr
theorem SCat.fr {F : List Addr} (h : SCat e H sr p) (f : Fr F H H') (d : ∀ b, b ∈ sr.dom → b ∉ F) : SCat e H' sr p := h.frame fun b o hb z => f b o z (d b hb)
theorem SR.m_rd : sr.rd ∈ sr.dom := by simp [SR.dom]
theorem SR.m_st : sr.st ∈ sr.dom := by simp [SR.dom]
theorem SR.m_gr : sr.gr ∈ sr.dom := by simp [SR.dom]
theorem SR.m_cr : sr.cr ∈ sr.dom := by simp [SR.dom]
theorem SR.m_gs : sr.gs ∈ sr.dom := by simp [SR.dom]
theorem SR.m_cs : sr.cs ∈ sr.dom := by simp [SR.dom]
end
section
variable {e : En} (T : Tx e)
include T
/-- the loop that moves the holders -/
theorem moves {count words : Nat} {r : CR} {sr : SR} {p : Pr} {pv : V} {X : Nat → Col} {Z : Col} {w : Nat} {hl : Addr} {hs : List Nat} {mv : Nat → Nat} {fd : Str} {la : Addr} {j : Nat} {σ0 : L2.St} {H : Hp} {D : Ends} {tl : TE}
    (hlist : Val tl σ0 H (.ref hl)) (h0 : ∀ v : Option V, (σ0.set j v)[0]? = some (some (.ref r.p))) (hw0 : ∀ v : Option V, (σ0.set j v)[2]? = some (some (.int (w : Int)))) (h3 : ∀ v : Option V, (σ0.set j v)[3]? = some (some (.ref sr.a)))
    (hjj : ∀ v : V, (σ0.set j (some v))[j]? = some (some v)) (lw : w < words)
    (ca : CAat e H count words r pv (setW X w Z)) (sc : SCat e H sr p) (apart : ∀ b, b ∈ sr.dom → b ∉ r.dom count) (hh : H hl = some (.lst (hs.map fun k : Nat => V.int (k : Int)))) (nh : hl ∉ r.dom count) (nd : hs.Nodup) (hk : ∀ k, k ∈ hs → k < count ∧ Z.s k ≤ p.n)
    (hfd : ∀ (σ : L2.St) (H' : Hp), SCat e H' sr p → σ[3]? = some (some (.ref sr.a)) → Val (tFld e.K (tVar 3) fd) σ H' (.ref la)) (hla : ∀ H', SCat e H' sr p → H' la = some (.lst (rowN (p.n + 1) mv)))
    (q : ∀ (v : Option V) (H' : Hp), CAat e H' count words r pv (setW X w (moved mv hs Z)) → Fr (r.dom count) H H' → D.nx (σ0.set j v) H') (hs0 : ∃ v, σ0 = σ0.set j v) :
    tFor (iList e.K tl) (gName j) (tDrop (tMeth e.Caches "move" (sp_Caches_move e) [] C8.E0 (tVar 0) (tCons (tVar j) (tCons (tVar 2) (tCons (tOp (rIxL e.K) (tFld e.K (tVar 3) fd) (tOp (rIxL e.K) (tOp (rIxL e.K) (tFld e.K (tVar 0) "states") (tVar j)) (tVar 2))) tNil))))) D σ0 H := by
  refine st_forL hlist hh (fun i σ H' => (∃ v, σ = σ0.set j v) ∧ CAat e H' count words r pv (setW X w (moved mv (hs.take i) Z)) ∧ Fr (r.dom count) H H') ⟨hs0, ?_, Fr.refl _ _⟩ ?_ ?_ ?_
  · rw [List.take_zero, moved_nil]
    exact ca
  · rintro i σ H' _ ⟨_, _, f⟩
    exact f _ _ hh nh
  · rintro i x σ H' hx ⟨⟨v, rfl⟩, ca1, f⟩
    rw [List.getElem?_map] at hx
    obtain ⟨k, hk1, rfl⟩ := Option.map_eq_some_iff.mp hx
    obtain ⟨lk, ln⟩ := hk k (List.mem_of_getElem? hk1)
    have sc1 := sc.fr f apart
    have es : ((setW X w (moved mv (hs.take i) Z)) w).s k = Z.s k := by rw [setW_same, moved_s (not_mem_take nd hk1)]
    rw [List.set_set]
    have vS := v_Skw (tk := tVar j) (tw := tVar 2) T (h0 _) ca1 (v_var (hjj (.int (k : Int)))) lk (v_var (hw0 _)) lw
    rw [es] at vS
    refine v_meth (h0 _) ca1 rfl (arg_cons (v_var (hjj _)) (arg_cons (v_var (hw0 _)) (arg_cons (v_ixL (hfd _ _ sc1 (h3 _)) vS (hla _ sc1) (row_get (g := fun k : Nat => V.int (k : Int)) (by omega))) arg_nil))) ?_
    refine ⟨count, words, r, pv, _, k, w, mv (Z.s k), rfl, ca1, lk, lw, fun H2 ca2 f2 => ⟨⟨_, rfl⟩, ?_, f.trans f2⟩⟩
    rw [setW_setW, setW_same, moved_step nd hk1] at ca2
    exact ca2
  · rintro σ H' ⟨⟨v, rfl⟩, ca1, f⟩
    rw [List.length_map, List.take_length] at ca1
    exact q v H' ca1 f
theorem p_load (vs : List V) (H : Hp) (Q : VK) (E : XK) (h : sp_Caches_load e vs H Q E) : t_Caches_load e { nx := fun _ H' => Q .non H', rt := Q } (start N_Caches_load vs) H := by
  obtain ⟨count, words, r, pp, pv, X, ⟨ak, c, w, acov, av⟩, ⟨rfl, ka⟩, cp, lc, lw, hc, q⟩ := h
  obtain rfl : ak = .load := ka
  have lc : c < count := lc
  have lw : w < words := lw
  have ca := cp.ca
  refine st_seq (st_set (v_P T rfl ca) ?_)
  match pp, cp, q with
  | none, cp, q =>
    obtain rfl : pv = .non := cp.pr
    refine st_seq (st_yes (ans_isN (v_var rfl) rfl) (st_ret (v_Mw T rfl ca (v_var rfl) lw) (q H ?_ (Fr.refl _ _))))
    show CAat e H count words r .non (setW X w (X w))
    rw [setW_id]
    exact ca
  | some (sr, p), cp, q =>
    obtain ⟨rfl, sc, pok, apart⟩ := cp.sc
    have cok : ∀ k, (X w).s k ≤ p.n := (cp.ok w).st
    refine st_seq (st_no (ans_isN (v_var rfl) rfl) (st_next ?_))
    by_cases hz : 0 < (X w).s c
    · refine st_seq (st_yes (a_gt (v_Skw T rfl ca (v_var rfl) lc (v_var rfl) lw) val_c (decide_eq_true (by omega))) (st_ret (v_Ckw T rfl ca (v_var rfl) lc (v_var rfl) lw) ?_))
      have e1 : ldC p count c (X w) = X w := if_pos hz
      have q1 := q H
      simp only [Option.map_some, stepC, stepV, e1, setW_id] at q1
      exact q1 ca (Fr.refl _ _)
    · refine st_seq (st_no (a_gt (v_Skw T rfl ca (v_var rfl) lc (v_var rfl) lw) val_c (decide_eq_false (by omega))) (st_next ?_))
      refine st_seq (st_asg (v_meth rfl ca rfl (arg_cons (v_var rfl) (arg_cons (v_var rfl) arg_nil)) ?_))
      refine ⟨count, words, r, _, X, c, w, rfl, ca, lw, hc, fun hl H1 nhl s1 hh => ?_⟩
      have ca1 := ca.same s1
      have nh := ca.out nhl
      have hhk : ∀ k, k ∈ holders count c (X w) → k < count ∧ (X w).s k ≤ p.n := fun k hk => ⟨(holders_lt hk).1, cok k⟩
      have sc1 : SCat e H1 sr p := sc.frame fun b o _ z => s1 b o z
      refine st_seq (st_do (v_meth rfl ca1 rfl (arg_cons (v_var rfl) (arg_cons (v_var rfl) (arg_cons (v_cleanread T (v_var rfl) sc1) arg_nil))) ?_))
      refine ⟨count, words, r, _, X, hl, sr.cr, w, p.n, holders count c (X w), p.cr, rfl, ca1, lw, hh, sc1.cr, hhk, nh, apart _ SR.m_cr, fun H2 ca2 f2 => ?_⟩
      have hh2 := f2 _ _ hh nh
      have sc2 := sc1.fr f2 apart
      refine st_seq (st_asg (v_meth rfl ca2 rfl (arg_cons (v_var rfl) (arg_cons (v_var rfl) (arg_cons (v_giveread T (v_var rfl) sc2) arg_nil))) ?_))
      refine ⟨count, words, r, _, _, hl, sr.gr, w, p.n, holders count c (X w), p.gr, rfl, ca2, lw, hh2, sc2.gr, (fun k hk => by rw [setW_same]; exact hhk k hk), ?_⟩
      rw [setW_same]
      refine st_seq (moves T (X := X) (p := p) (sr := sr) (hs := holders count c (X w)) (mv := p.rd) (Z := { X w with m := cleaned p.cr (holders count c (X w)) (X w) }) (v_var rfl) (fun _ => rfl) (fun _ => rfl) (fun _ => rfl) (fun _ => rfl) lw ca2 sc2 apart hh2 nh holders_nd hhk
        (fun σ H' s z => v_onread T (v_var z) s) (fun H' s => s.rd) (fun v H3 ca3 f3 => ?_) ⟨_, rfl⟩)
      have hh3 := f3 _ _ hh2 nh
      have sc3 := sc2.fr f3 apart
      have nc : c ∉ holders count c (X w) := fun m => (holders_lt m).2.1 rfl
      dsimp only
      refine st_seq (st_setS (v := if 0 < (holders count c (X w)).length then p.shared else p.lone) T ?_ rfl ca3 (v_var rfl) lc (v_var rfl) lw fun H4 ca4 f4 => ?_)
      · by_cases hn : 0 < (holders count c (X w)).length
        · rw [if_pos hn]
          exact v_if (b := true) (a_gt (v_lenL (v_var rfl) hh3) val_c (decide_eq_true (by rw [List.length_map]; omega))) (fun _ => v_shared T (v_var rfl) sc3) (fun z => nomatch z)
        · rw [if_neg hn]
          exact v_if (b := false) (a_gt (v_lenL (v_var rfl) hh3) val_c (decide_eq_false (by rw [List.length_map]; omega))) (fun z => nomatch z) (fun _ => v_lone T (v_var rfl) sc3)
      · rw [setW_setW, setW_same] at ca4
        refine st_seq (st_setC T (v_var rfl) rfl ca4 (v_var rfl) lc (v_var rfl) lw fun H5 ca5 f5 => st_ret (v_var rfl) ?_)
        rw [setW_setW, setW_same] at ca5
        have q1 := q H5
        have e1 : ldC p count c (X w) = ⟨fset (moved p.rd (holders count c (X w)) (X w)).s c (if 0 < (holders count c (X w)).length then p.shared else p.lone),
          fset (moved p.rd (holders count c (X w)) (X w)).c c (fetched p.gr (holders count c (X w)) (X w) (cleaned p.cr (holders count c (X w)) (X w))), cleaned p.cr (holders count c (X w)) (X w)⟩ := if_neg hz
        have q2 : CAat e H5 count words r (.ref sr.a) (setW X w (ldC p count c (X w))) → Fr (r.dom count) H H5 → Q (.int ((ldC p count c (X w)).c c)) H5 := q1
        rw [e1] at q2
        have q3 := q2 ca5 (((((Fr.of_same s1).trans f2).trans f3).trans f4).trans f5)
        simp only [fset_same] at q3
        exact q3
end
end Cm
set_option maxHeartbeats 1000000
namespace Cm
open PySem PySem.Spec L2
section
variable {e : En} (T : Tx e)
include T
theorem p_steal (vs : List V) (H : Hp) (Q : VK) (E : XK) (h : sp_Caches_steal e vs H Q E) : t_Caches_steal e { nx := fun _ H' => Q .non H', rt := Q } (start N_Caches_steal vs) H := by
  obtain ⟨count, words, r, sr, p, pv, X, c, w, rfl, cp, lc, lw, hc, q⟩ := h
  have ca := cp.ca
  obtain ⟨rfl, sc, pok, apart⟩ := cp.sc
  have cok : ∀ k, (X w).s k ≤ p.n := (cp.ok w).st
  refine st_seq (st_set (v_P T rfl ca) ?_)
  refine st_seq (st_asg (v_meth rfl ca rfl (arg_cons (v_var rfl) (arg_cons (v_var rfl) arg_nil)) ?_))
  refine ⟨count, words, r, _, X, c, w, rfl, ca, lw, hc, fun hl H1 nhl s1 hh => ?_⟩
  have ca1 := ca.same s1
  have nh := ca.out nhl
  have hhk : ∀ k, k ∈ holders count c (X w) → k < count ∧ (X w).s k ≤ p.n := fun k hk => ⟨(holders_lt hk).1, cok k⟩
  have sc1 : SCat e H1 sr p := sc.frame fun b o _ z => s1 b o z
  refine st_seq (st_do (v_meth rfl ca1 rfl (arg_cons (v_var rfl) (arg_cons (v_var rfl) (arg_cons (v_cleansteal T (v_var rfl) sc1) arg_nil))) ?_))
  refine ⟨count, words, r, _, X, hl, sr.cs, w, p.n, holders count c (X w), p.cs, rfl, ca1, lw, hh, sc1.cs, hhk, nh, apart _ SR.m_cs, fun H2 ca2 f2 => ?_⟩
  have hh2 := f2 _ _ hh nh
  have sc2 := sc1.fr f2 apart
  have nc : c ∉ holders count c (X w) := fun m => (holders_lt m).2.1 rfl
  -- what follows, from a column Z in which the states are the old ones
  have rest : ∀ (Z : Col) (H3 : Hp), (∀ k, Z.s k = (X w).s k) → ⟨fset (moved p.st (holders count c (X w)) Z).s c p.own, (moved p.st (holders count c (X w)) Z).c, Z.m⟩ = stealC p count c (X w) → CAat e H3 count words r (.ref sr.a) (setW X w Z) → Fr (r.dom count) H H3 → H3 hl = some (.lst ((holders count c (X w)).map fun k : Nat => V.int (k : Int))) →
      (tSeq (tFor (iList e.K (tVar 4)) (gName 5)
    (tDrop (tMeth e.Caches "move" (sp_Caches_move e) [] C8.E0 (tVar 0) (tCons (tVar 5) (tCons (tVar 2) (tCons (tOp (rIxL e.K) (tFld e.K (tVar 3) "onsteal") (tOp (rIxL e.K) (tOp (rIxL e.K) (tFld e.K (tVar 0) "states") (tVar 5)) (tVar 2))) tNil))))))
    (tAsg (tFld e.K (tVar 3) "own") (gSub (tOp (rIxL e.K) (tFld e.K (tVar 0) "states") (tVar 1)) (tVar 2) rSetL))) { nx := fun _ H' => Q .non H', rt := Q } [some (.ref r.p), some (.int (c : Int)), some (.int (w : Int)), some (.ref sr.a), some (.ref hl), none] H3 := by
    intro Z H3 hZ eZ ca3 f3 hh3
    have sc3 := sc.fr f3 apart
    refine st_seq (moves T (X := X) (p := p) (sr := sr) (hs := holders count c (X w)) (mv := p.st) (Z := Z) (v_var rfl) (fun _ => rfl) (fun _ => rfl) (fun _ => rfl) (fun _ => rfl) lw ca3 sc3 apart hh3 nh holders_nd (fun k hk => by rw [hZ k]; exact hhk k hk)
        (fun σ H' s z => v_onsteal T (v_var z) s) (fun H' s => s.st) (fun v H4 ca4 f4 => ?_) ⟨_, rfl⟩)
    have sc4 := sc3.fr f4 apart
    dsimp only
    refine st_setS (v := p.own) T (v_own T (v_var rfl) sc4) rfl ca4 (v_var rfl) lc (v_var rfl) lw fun H5 ca5 f5 => ?_
    rw [setW_setW, setW_same] at ca5
    have e2 : ({ moved p.st (holders count c (X w)) Z with s := fset (moved p.st (holders count c (X w)) Z).s c p.own } : Col) = stealC p count c (X w) := eZ
    rw [e2] at ca5
    exact q H5 ca5 ((f3.trans f4).trans f5)
  by_cases hz : (X w).s c = 0
  · have es : ((setW X w { X w with m := cleaned p.cs (holders count c (X w)) (X w) }) w).s c = 0 := by rw [setW_same]; exact hz
    have v1 := v_Skw (σ := [some (.ref r.p), some (.int (c : Int)), some (.int (w : Int)), some (.ref sr.a), some (.ref hl), none]) (tk := tVar 1) (tw := tVar 2) (i := 0) T rfl ca2 (v_var rfl) lc (v_var rfl) lw
    rw [es] at v1
    refine st_seq (st_yes (a_eqI v1 val_c (by decide)) ?_)
    refine v_meth rfl ca2 rfl (arg_cons (v_var rfl) (arg_cons (v_var rfl) (arg_cons (v_givesteal T (v_var rfl) sc2) arg_nil))) ?_
    refine ⟨count, words, r, _, _, hl, sr.gs, w, p.n, holders count c (X w), p.gs, rfl, ca2, lw, hh2, sc2.gs, (fun k hk => by rw [setW_same]; exact hhk k hk), ?_⟩
    rw [setW_same]
    refine st_setC (v := fetched p.gs (holders count c (X w)) (X w) (cleaned p.cs (holders count c (X w)) (X w))) (te := tC (.int (fetched p.gs (holders count c (X w)) (X w) (cleaned p.cs (holders count c (X w)) (X w))))) T val_c rfl ca2 (v_var rfl) lc (v_var rfl) lw fun H3 ca3 f3 => ?_
    rw [setW_setW, setW_same] at ca3
    have ec : (moved p.st (holders count c (X w)) ⟨(X w).s, fset (X w).c c (fetched p.gs (holders count c (X w)) (X w) (cleaned p.cs (holders count c (X w)) (X w))), cleaned p.cs (holders count c (X w)) (X w)⟩).c =
        fset (moved p.st (holders count c (X w)) (X w)).c c (fetched p.gs (holders count c (X w)) (X w) (cleaned p.cs (holders count c (X w)) (X w))) := by
      funext k
      unfold moved fset
      by_cases hk : k = c
      · subst hk
        simp [nc]
      · simp [hk]
    refine rest ⟨(X w).s, fset (X w).c c (fetched p.gs (holders count c (X w)) (X w) (cleaned p.cs (holders count c (X w)) (X w))), cleaned p.cs (holders count c (X w)) (X w)⟩ H3 (fun _ => rfl) ?_ ca3 (((Fr.of_same s1).trans f2).trans f3) (f3 _ _ hh2 nh)
    rw [ec]
    unfold stealC
    rw [if_pos hz] <;> rfl
  · have es : ((setW X w { X w with m := cleaned p.cs (holders count c (X w)) (X w) }) w).s c = (X w).s c := by rw [setW_same]
    have v1 := v_Skw (σ := [some (.ref r.p), some (.int (c : Int)), some (.int (w : Int)), some (.ref sr.a), some (.ref hl), none]) (tk := tVar 1) (tw := tVar 2) (i := 0) T rfl ca2 (v_var rfl) lc (v_var rfl) lw
    rw [es] at v1
    refine st_seq (st_no (a_eqI v1 val_c (decide_eq_false (by omega))) (st_next ?_))
    refine rest ⟨(X w).s, (X w).c, cleaned p.cs (holders count c (X w)) (X w)⟩ H2 (fun _ => rfl) ?_ ca2 ((Fr.of_same s1).trans f2) hh2
    unfold stealC
    rw [if_neg hz] <;> rfl
theorem p_store (vs : List V) (H : Hp) (Q : VK) (E : XK) (h : sp_Caches_store e vs H Q E) : t_Caches_store e { nx := fun _ H' => Q .non H', rt := Q } (start N_Caches_store vs) H := by
  obtain ⟨count, words, r, pp, pv, X, ⟨ak, c, w, cov, av⟩, ⟨rfl, ka, hcov, hav⟩, cp, lc, lw, hc, q⟩ := h
  obtain rfl : ak = .store := ka
  have lc : c < count := lc
  have lw : w < words := lw
  have hcov : cov < 256 := hcov
  have hav : 0 ≤ av ∧ av < 2 ^ 64 := hav
  have ca := cp.ca
  refine st_seq (st_set (v_P T rfl ca) ?_)
  match pp, cp, q with
  | none, cp, q =>
    obtain rfl : pv = .non := cp.pr
    have mb := (cp.ok w).mb
    refine st_seq (st_yes (ans_isN (v_var rfl) rfl) (st_seq (st_set (v_Mw T rfl ca (v_var rfl) lw) (st_seq ?_))))
    refine v_call (arg_cons (v_var rfl) (arg_cons (v_var rfl) (arg_cons (v_var rfl) arg_nil))) ⟨_, _, cov, rfl, mb, hav, hcov, ?_⟩
    exact st_setM (te := tC (.int (mrg (X w).m av cov))) T val_c rfl ca (v_var rfl) lw fun H2 ca2 f2 => st_ret (v_var rfl) (q H2 ca2 f2)
  | some (sr, p), cp, q =>
    obtain ⟨rfl, sc, pok, apart⟩ := cp.sc
    have cok : ∀ k, (X w).s k ≤ p.n := (cp.ok w).st
    have rest : ∀ (H3 : Hp), CAat e H3 count words r (.ref sr.a) (setW X w (ownedC p count c (X w))) → Fr (r.dom count) H H3 → (0 ≤ (ownedC p count c (X w)).c c ∧ (ownedC p count c (X w)).c c < 2 ^ 64) →
        (tSeq (tAsg (tOp (rIxL e.K) (tOp (rIxL e.K) (tFld e.K (tVar 0) "copies") (tVar 1)) (tVar 2)) (gName 6))
    (tSeq (tAsg (tCall (sp_merge e) [] C8.E0 (tCons (tVar 6) (tCons (tVar 4) (tCons (tVar 3) tNil)))) (gSub (tOp (rIxL e.K) (tFld e.K (tVar 0) "copies") (tVar 1)) (tVar 2) rSetL))
    (tSeq (tIfS (tB (tFld e.K (tVar 5) "through"))
    (tAsg (tOp (rIxL e.K) (tOp (rIxL e.K) (tFld e.K (tVar 0) "copies") (tVar 1)) (tVar 2)) (gSub (tFld e.K (tVar 0) "memory") (tVar 2) rSetL))
    tNext)
    (tRet (tVar 6))))) { nx := fun _ H' => Q .non H', rt := Q } [some (.ref r.p), some (.int (c : Int)), some (.int (w : Int)), some (.int (cov : Int)), some (.int av), some (.ref sr.a), none, some (.int ((X w).s c : Nat))] H3 := by
      intro H3 ca3 f3 hb
      have v1 := v_Ckw (σ := [some (.ref r.p), some (.int (c : Int)), some (.int (w : Int)), some (.int (cov : Int)), some (.int av), some (.ref sr.a), none, some (.int ((X w).s c : Nat))]) (tk := tVar 1) (tw := tVar 2) (i := 0) T rfl ca3 (v_var rfl) lc (v_var rfl) lw
      rw [setW_same] at v1
      refine st_seq (st_set v1 (st_seq ?_))
      refine v_call (arg_cons (v_var rfl) (arg_cons (v_var rfl) (arg_cons (v_var rfl) arg_nil))) ⟨_, _, cov, rfl, hb, hav, hcov, ?_⟩
      refine st_setC (te := tC (.int (mrg ((ownedC p count c (X w)).c c) av cov))) T val_c rfl ca3 (v_var rfl) lc (v_var rfl) lw fun H4 ca4 f4 => ?_
      rw [setW_setW, setW_same] at ca4
      have sc4 := sc.fr (f3.trans f4) apart
      refine st_seq (st_if (a_B (v_through T (v_var rfl) sc4)) (fun ht => ?_) (fun ht => ?_))
      · have v2 := v_Ckw (σ := [some (.ref r.p), some (.int (c : Int)), some (.int (w : Int)), some (.int (cov : Int)), some (.int av), some (.ref sr.a), some (.int ((ownedC p count c (X w)).c c)), some (.int ((X w).s c : Nat))]) (tk := tVar 1) (tw := tVar 2) (i := 0) T rfl ca4 (v_var rfl) lc (v_var rfl) lw
        rw [setW_same] at v2
        refine st_setM T v2 rfl ca4 (v_var rfl) lw fun H5 ca5 f5 => st_ret (v_var rfl) ?_
        rw [setW_setW, setW_same] at ca5
        refine q H5 ?_ ((f3.trans f4).trans f5)
        have e1 : stepC (some p) count ⟨.store, c, w, cov, av⟩ (X w) = { ownedC p count c (X w) with c := fset (ownedC p count c (X w)).c c (mrg ((ownedC p count c (X w)).c c) av cov), m := mrg ((ownedC p count c (X w)).c c) av cov } := by
          show stC p count c cov av (X w) = _
          unfold stC
          rw [if_pos ht]
        show CAat e H5 count words r _ (setW X w (stepC (some p) count ⟨.store, c, w, cov, av⟩ (X w)))
        rw [e1]
        simp only [fset_same] at ca5
        exact ca5
      · refine st_next (st_ret (v_var rfl) (q H4 ?_ (f3.trans f4)))
        have e1 : stepC (some p) count ⟨.store, c, w, cov, av⟩ (X w) = { ownedC p count c (X w) with c := fset (ownedC p count c (X w)).c c (mrg ((ownedC p count c (X w)).c c) av cov) } := by
          show stC p count c cov av (X w) = _
          unfold stC
          rw [if_neg (by rw [ht]; exact Bool.false_ne_true)]
        show CAat e H4 count words r _ (setW X w (stepC (some p) count ⟨.store, c, w, cov, av⟩ (X w)))
        rw [e1]
        exact ca4
    refine st_seq (st_no (ans_isN (v_var rfl) rfl) (st_next ?_))
    refine st_seq (st_set (v_Skw T rfl ca (v_var rfl) lc (v_var rfl) lw) ?_)
    have vw : Val (tOp (rIxL e.K) (tFld e.K (tVar 5) "write") (tVar 7)) [some (.ref r.p), some (.int (c : Int)), some (.int (w : Int)), some (.int (cov : Int)), some (.int av), some (.ref sr.a), none, some (.int ((X w).s c : Nat))] H (.int (p.wr ((X w).s c) : Nat)) :=
      v_ixL (v_write T (v_var rfl) sc) (v_var rfl) sc.wr (row_get (g := fun k : Nat => V.int (k : Int)) (by have := cok c; omega))
    by_cases hz : 0 < p.wr ((X w).s c)
    · have e0 : ownedC p count c (X w) = { X w with s := fset (X w).s c (p.wr ((X w).s c)) } := if_pos hz
      refine st_seq (st_yes (a_gt vw val_c (decide_eq_true (by omega))) (st_setS T vw rfl ca (v_var rfl) lc (v_var rfl) lw fun H3 ca3 f3 => ?_))
      refine rest H3 (by rw [e0]; exact ca3) f3 ?_
      rw [e0]
      exact (cp.ok w).cb c
    · have e0 : ownedC p count c (X w) = stealC p count c (X w) := if_neg hz
      refine st_seq (st_no (a_gt vw val_c (decide_eq_false (by omega))) (st_do (v_meth rfl ca rfl (arg_cons (v_var rfl) (arg_cons (v_var rfl) arg_nil)) ?_)))
      refine ⟨count, words, r, sr, p, _, X, c, w, rfl, cp, lc, lw, hc, fun H3 ca3 f3 => rest H3 (by rw [e0]; exact ca3) f3 ?_⟩
      rw [e0]
      exact (stealC_ok pok (cp.ok w)).cb c
theorem p_leave (vs : List V) (H : Hp) (Q : VK) (E : XK) (h : sp_Caches_leave e vs H Q E) : t_Caches_leave e { nx := fun _ H' => Q .non H', rt := Q } (start N_Caches_leave vs) H := by
  obtain ⟨count, words, r, pp, pv, X, ⟨ak, c, w, cov, av⟩, ⟨rfl, ka⟩, cp, lc, lw, hc, q⟩ := h
  obtain rfl : ak = .leave := ka
  have lc : c < count := lc
  have lw : w < words := lw
  have ca := cp.ca
  refine st_seq (st_set (v := .int ((X w).s c : Nat)) (v_Skw T rfl ca (v_var rfl) lc (v_var rfl) lw) ?_)
  match pp, cp, q with
  | none, cp, q =>
    have h0 : (X w).s c = 0 := Nat.le_zero.mp ((cp.ok w).st c)
    refine st_no (a_gt (v_var rfl) val_c (decide_eq_false (by rw [h0]; decide))) (st_next (q H ?_ (Fr.refl _ _)))
    show CAat e H count words r pv (setW X w (X w))
    rw [setW_id]
    exact ca
  | some (sr, p), cp, q =>
    obtain ⟨rfl, sc, pok, apart⟩ := cp.sc
    have cok : ∀ k, (X w).s k ≤ p.n := (cp.ok w).st
    by_cases hz : 0 < (X w).s c
    · have fin : ∀ (Z : Col) (H3 : Hp), Z = { X w with m := if p.bk ((X w).s c) = true then (X w).c c else (X w).m } → CAat e H3 count words r (.ref sr.a) (setW X w Z) → Fr (r.dom count) H H3 →
          tDrop (tMeth e.Caches "move" (sp_Caches_move e) [] C8.E0 (tVar 0) (tCons (tVar 1) (tCons (tVar 2) (tCons (tC (.int 0)) tNil)))) { nx := fun _ H' => Q .non H', rt := Q } [some (.ref r.p), some (.int (c : Int)), some (.int (w : Int)), some (.int ((X w).s c : Nat))] H3 := by
        intro Z H3 eZ ca3 f3
        refine st_do (v_meth rfl ca3 rfl (arg_cons (v_var rfl) (arg_cons (v_var rfl) (arg_cons val_c arg_nil))) ?_)
        refine ⟨count, words, r, _, _, c, w, 0, rfl, ca3, lc, lw, fun H4 ca4 f4 => q H4 ?_ (f3.trans f4)⟩
        rw [setW_setW, setW_same] at ca4
        have e1 : stepC (some p) count ⟨.leave, c, w, cov, av⟩ (X w) = mvC c 0 Z := by
          show lvC p c (X w) = _
          unfold lvC mvC
          rw [if_pos hz, if_pos rfl, eZ]
        show CAat e H4 count words r _ (setW X w (stepC (some p) count ⟨.leave, c, w, cov, av⟩ (X w)))
        rw [e1]
        exact ca4
      refine st_yes (a_gt (v_var rfl) val_c (decide_eq_true (by omega))) ?_
      refine st_seq (st_if (b := p.bk ((X w).s c)) (a_B (v_ixL (v_writeback T (v_P T rfl ca) sc) (v_var rfl) sc.bk (row_get (g := V.bl) (by have := cok c; omega)))) (fun hb => ?_) (fun hb => ?_))
      · refine st_setM T (v_Ckw T rfl ca (v_var rfl) lc (v_var rfl) lw) rfl ca (v_var rfl) lw fun H3 ca3 f3 => fin _ H3 ?_ ca3 f3
        rw [if_pos hb]
      · refine st_next (fin (X w) H ?_ (by rw [setW_id]; exact ca) (Fr.refl _ _))
        rw [if_neg (by rw [hb]; exact Bool.false_ne_true)]
    · refine st_no (a_gt (v_var rfl) val_c (decide_eq_false (show ¬ (0 : Int) < ((X w).s c : Nat) by omega))) (st_next (q H ?_ (Fr.refl _ _)))
      have e1 : stepC (some p) count ⟨.leave, c, w, cov, av⟩ (X w) = X w := if_neg hz
      show CAat e H count words r _ (setW X w (stepC (some p) count ⟨.leave, c, w, cov, av⟩ (X w)))
      rw [e1, setW_id]
      exact ca
end
end Cm
set_option maxHeartbeats 1000000
/-! Comprehensions whose elements make objects; data that is new. -/
namespace Cm
open PySem PySem.Spec L2
theorem same_new {H : Hp} {a : Addr} {o : HO} (h : H a = none) : Same H (upd H a o) := fun c u e => by
  rw [upd_ne (ne_of_none e h)]
  exact e
/-- what H has and B has not -/
def mi (H B : Hp) : Hp := fun b => match B b with
  | none => H b
  | some _ => none
theorem mi_some {H B : Hp} {b : Addr} {o : HO} (h : mi H B b = some o) : H b = some o ∧ B b = none := by
  unfold mi at h
  cases e : B b with
  | none =>
    rw [e] at h
    exact ⟨h, rfl⟩
  | some u =>
    rw [e] at h
    cases h
theorem mi_of {H B : Hp} {b : Addr} {o : HO} (h : H b = some o) (n : B b = none) : mi H B b = some o := by
  unfold mi
  rw [n]
  exact h
theorem mi_le {H B : Hp} : Same (mi H B) H := fun _ _ h => (mi_some h).1
/-- more in H, less in B -/
theorem mi_mono {H H' B B' : Hp} (h : ∀ b o, H b = some o → B b = none → H' b = some o) (hb : ∀ b, B b = none → B' b = none) : Same (mi H B) (mi H' B') := fun b o e => by
  obtain ⟨h1, h2⟩ := mi_some e
  exact mi_of (h b o h1 h2) (hb b h2)
theorem SqT.mono {K : PySem.W.Frag} {H H' : Hp} {a : Addr} {xs : List V} (e : Same H H') (h : SqT K H a xs) : SqT K H' a xs := by
  rcases h with (h | ⟨o, h⟩) | h
  · exact .inl (.inl (e _ _ h))
  · exact .inl (.inr ⟨o, e _ _ h⟩)
  · exact .inr h
mutual
theorem Dp.mono {K : PySem.W.Frag} {H H' : Hp} (e : Same H H') : ∀ {v : V} {d : PyData}, Dp K H v d → Dp K H' v d
  | _, _, .non => .non
  | _, _, .bl b => .bl b
  | _, _, .int i => .int i
  | _, _, .str x => .str x
  | _, _, .lst h a => .lst (e.seq h) (DpAll.mono e a)
  | _, _, .tup h a => .tup (SqT.mono e h) (DpAll.mono e a)
theorem DpAll.mono {K : PySem.W.Frag} {H H' : Hp} (e : Same H H') : ∀ {vs : List V} {ds : List PyData}, DpAll K H vs ds → DpAll K H' vs ds
  | _, _, .nil => .nil
  | _, _, .cons h t => .cons (Dp.mono e h) (DpAll.mono e t)
end
theorem DpAll.of {K : PySem.W.Frag} {H : Hp} : ∀ {vs : List V} {ds : List PyData}, vs.length = ds.length → (∀ (i : Nat) (v : V) (d : PyData), vs[i]? = some v → ds[i]? = some d → Dp K H v d) → DpAll K H vs ds
  | [], [], _, _ => .nil
  | [], _ :: _, h, _ => by simp at h
  | _ :: _, [], h, _ => by simp at h
  | v :: vs, d :: ds, h, f => .cons (f 0 v d rfl rfl) (DpAll.of (by simpa using h) fun i x y hx hy => f (i + 1) x y (by simpa using hx) (by simpa using hy))
theorem DpAll.row {K : PySem.W.Frag} {H : Hp} {n : Nat} {f : Nat → V} {g : Nat → PyData} (h : ∀ i, i < n → Dp K H (f i) (g i)) : DpAll K H ((List.range n).map f) ((List.range n).map g) := by
  refine DpAll.of (by simp) fun i v d hv hd => ?_
  rw [List.getElem?_map] at hv hd
  obtain ⟨a, ha, rfl⟩ := Option.map_eq_some_iff.mp hv
  rw [ha] at hd
  obtain rfl : g a = d := Option.some.inj hd
  have hl := (List.getElem?_eq_some_iff.mp ha)
  obtain ⟨h1, h2⟩ := hl
  rw [List.length_range] at h1
  rw [List.getElem_range] at h2
  subst h2
  exact h i h1
theorem Dp.ints {K : PySem.W.Frag} {H : Hp} {n : Nat} {f : Nat → Int} : DpAll K H ((List.range n).map fun i => V.int (f i)) ((List.range n).map fun i => PyData.int (f i)) := DpAll.row fun i _ => .int _
theorem upd_comm {H : Hp} {a b : Addr} {o u : HO} (h : a ≠ b) : upd (upd H a o) b u = upd (upd H b u) a o := by
  funext c
  unfold upd
  by_cases h1 : c = b
  · subst h1
    rw [if_pos rfl, if_neg (fun z => h z.symm), if_pos rfl]
  · rw [if_neg h1]
    by_cases h2 : c = a
    · rw [if_pos h2, if_pos h2]
    · rw [if_neg h2, if_neg h2, if_neg h1]
section
variable {K : PySem.W.Frag} {σ : L2.St} {H : Hp} {ta te : TE} {j : Nat} {vs : List Nat}
/-- what a comprehension has made after i turns: the list at L, each item as R says, new against H and L, the items apart -/
structure LcI (H : Hp) (L : Addr) (R : Nat → V → Hp → Prop) (i : Nat) (H' : Hp) : Prop where
  ex : ∃ xs : List V, H' L = some (.lst xs) ∧ xs.length = i ∧ (∀ k v, xs[k]? = some v → R k v (mi H' (upd H L (.lst [])))) ∧
    ∀ j k u v, j < k → xs[j]? = some u → xs[k]? = some v → ∃ B : Hp, (∃ o, B L = some o) ∧ (∀ b o, b ≠ L → B b = some o → H' b = some o) ∧ R j u (mi B (upd H L (.lst []))) ∧ R k v (mi H' B)
  same : Same H H'
theorem LcI.start {R : Nat → V → Hp → Prop} {L : Addr} (hL : H L = none) : LcI H L R 0 (upd H L (.lst [])) :=
  ⟨⟨[], upd_same, rfl, fun k v h => by simp at h, fun j k u v _ h => by simp at h⟩, same_new hL⟩
theorem LcI.step {R : Nat → V → Hp → Prop} {L : Addr} {i : Nat} {H1 H2 : Hp} {v : V} (hL : H L = none) (hR : ∀ k v A B, Same A B → R k v A → R k v B) (h : LcI H L R i H1) (s : Same H1 H2) (r : R i v (mi H2 H1)) :
    ∃ acc, H2 L = some (.lst acc) ∧ acc.length = i ∧ LcI H L R (i + 1) (upd H2 L (.lst (acc ++ [v]))) := by
  obtain ⟨⟨xs, e1, e2, e3, e4⟩, s1⟩ := h
  have old : ∀ (B : Hp), (∃ o, B L = some o) → Same (mi H1 B) (mi (upd H2 L (.lst (xs ++ [v]))) B) := fun B ⟨o, hB⟩ => mi_mono (fun b o q n => by
    have hb : b ≠ L := fun z => by
      rw [z, hB] at n
      cases n
    rw [upd_ne hb]
    exact s b o q) fun b n => n
  have new : R i v (mi (upd H2 L (.lst (xs ++ [v]))) H1) := hR _ _ _ _ (mi_mono (fun b o q n => by
    have hb : b ≠ L := fun z => by
      rw [z, e1] at n
      cases n
    rw [upd_ne hb]
    exact q) fun b n => n) r
  have at_ : ∀ k u, (xs ++ [v])[k]? = some u → (k < i ∧ xs[k]? = some u) ∨ (k = i ∧ u = v) := fun k u hu => by
    by_cases hk : k < xs.length
    · rw [List.getElem?_append_left hk] at hu
      exact .inl ⟨by omega, hu⟩
    · have ek : k = i := by
        have := (List.getElem?_eq_some_iff.mp hu).1
        rw [List.length_append] at this
        simp at this
        omega
      subst ek
      rw [List.getElem?_append_right (by omega), e2, Nat.sub_self] at hu
      exact .inr ⟨rfl, (Option.some.inj hu).symm⟩
  refine ⟨xs, s _ _ e1, e2, ⟨xs ++ [v], upd_same, by rw [List.length_append, e2] <;> rfl, fun k u hu => ?_, fun j k u w' hjk hu hw => ?_⟩, fun b o q => ?_⟩
  · rcases at_ k u hu with ⟨_, q⟩ | ⟨rfl, rfl⟩
    · exact hR _ _ _ _ (old _ ⟨_, upd_same⟩) (e3 k u q)
    · refine hR _ _ _ _ (mi_mono (fun b o q n => q) fun b n => ?_) new
      have hb : b ≠ L := fun z => by
        rw [z, e1] at n
        cases n
      rw [upd_ne hb]
      exact s1.free n
  · rcases at_ k w' hw with ⟨hk, q⟩ | ⟨rfl, rfl⟩
    · rcases at_ j u hu with ⟨_, q2⟩ | ⟨rfl, rfl⟩
      · obtain ⟨B, hB, hBH, r1, r2⟩ := e4 j k u w' hjk q2 q
        exact ⟨B, hB, fun b o n z => by rw [upd_ne n]; exact s _ _ (hBH b o n z), r1, hR _ _ _ _ (old B hB) r2⟩
      · omega
    · rcases at_ j u hu with ⟨_, q2⟩ | ⟨rfl, rfl⟩
      · exact ⟨H1, ⟨_, e1⟩, fun b o n z => by rw [upd_ne n]; exact s _ _ z, e3 j u q2, new⟩
      · omega
  · have hb : b ≠ L := ne_of_none q hL
    rw [upd_ne hb]
    exact s _ _ (s1 _ _ q)
/-- what is handed on -/
def LcQ (H : Hp) (R : Nat → V → Hp → Prop) (n : Nat) (Q : VK) : Prop := ∀ (L : Addr) (xs : List V) (H' : Hp), H L = none → Same H H' → H' L = some (.lst xs) → xs.length = n → (∀ k v, xs[k]? = some v → R k v (mi H' (upd H L (.lst [])))) →
  (∀ j k u v, j < k → xs[j]? = some u → xs[k]? = some v → ∃ B : Hp, (∃ o, B L = some o) ∧ (∀ b o, b ≠ L → B b = some o → H' b = some o) ∧ R j u (mi B (upd H L (.lst []))) ∧ R k v (mi H' B)) → Q (.ref L) H'
/-- [e for x in range(n)]: e makes objects -/
theorem lcG_range {n : Nat} (R : Nat → V → Hp → Prop) (hR : ∀ k v A B, Same A B → R k v A → R k v B) (hb : n ≤ 100000)
    (he : ∀ i H1, i < n → Same H H1 → ∀ Q : VK, (∀ v H2, Same H1 H2 → R i v (mi H2 H1) → Q v H2) → te ((wipe σ vs).set j (some (.int (i : Int)))) H1 Q)
    (hw : ∀ x, wipe ((wipe σ vs).set j (some x)) vs = wipe σ vs) {Q : VK}
    (q : LcQ H R n Q) (L : Addr) (hL : H L = none) :
    ∃ W : Nat → Nat → Hp → Prop, (∃ m, W 0 m (upd H L (.lst []))) ∧ ∀ i m H, W i m H →
      ((Itr 0 n).stop i H ∧ Q (.ref L) H) ∨ ((Itr 0 n).go i H ∧ ∃ Nx : Hp → Prop, (∀ H', Nx H' → ∃ m', m' < m ∧ W (i + 1) m' H') ∧ ∀ x H', (Itr 0 n).yld i H x H' → (gName j) x (wipe σ vs) H' fun σ2 H2 => wipe σ2 vs = wipe σ vs ∧ tYes σ2 H2 fun b H3 =>
        if b = true then te σ2 H3 fun y H4 => ∃ acc, H4 L = some (.lst acc) ∧ acc.length < sizeLine ∧ Nx (upd H4 L (.lst (acc ++ [y]))) else Nx H3) := by
  refine lc_range (lo := 0) (n := n) (fun i H' => i ≤ n ∧ LcI H L R i H') ⟨Nat.zero_le _, LcI.start hL⟩ ?_ ?_
  · rintro i H1 hi ⟨_, p⟩
    rw [Int.zero_add]
    refine ⟨hw _, a_yes _ ?_⟩
    refine iteT (he i H1 hi p.same _ fun v H2 s r => ?_)
    obtain ⟨acc, h1, h2, h3⟩ := p.step hL hR s r
    exact ⟨acc, h1, Nat.lt_of_lt_of_le (show acc.length < 100001 by omega) (by decide), hi, h3⟩
  · rintro H1 ⟨_, p⟩
    obtain ⟨⟨xs, e1, e2, e3, e4⟩, s⟩ := p
    exact q L xs H1 hL s e1 e2 e3 e4
theorem v_lcG1 {n : Nat} (R : Nat → V → Hp → Prop) (hR : ∀ k v A B, Same A B → R k v A → R k v B) (hn : Val ta σ H (.int (n : Int))) (hb : n ≤ 100000)
    (he : ∀ i H1, i < n → Same H H1 → ∀ Q : VK, (∀ v H2, Same H1 H2 → R i v (mi H2 H1) → Q v H2) → te ((wipe σ vs).set j (some (.int (i : Int)))) H1 Q)
    (hw : ∀ x, wipe ((wipe σ vs).set j (some x)) vs = wipe σ vs) {Q : VK}
    (q : LcQ H R n Q) : tLc (iRng1 (tCons ta tNil)) (gName j) tYes te vs σ H Q := by
  refine hn _ ⟨(n : Int), rfl, by omega, by omega, ?_⟩
  rw [Int.toNat_natCast]
  exact lcG_range R hR hb he hw q
theorem v_lcGV {n : Nat} {a : Addr} (R : Nat → V → Hp → Prop) (hR : ∀ k v A B, Same A B → R k v A → R k v B) (hn : Val ta σ H (.ref a)) (ha : H a = some (.rng 0 (n : Int))) (hb : n ≤ 100000)
    (he : ∀ i H1, i < n → Same H H1 → ∀ Q : VK, (∀ v H2, Same H1 H2 → R i v (mi H2 H1) → Q v H2) → te ((wipe σ vs).set j (some (.int (i : Int)))) H1 Q)
    (hw : ∀ x, wipe ((wipe σ vs).set j (some x)) vs = wipe σ vs) {Q : VK}
    (q : LcQ H R n Q) : tLc (iRngV ta) (gName j) tYes te vs σ H Q := by
  refine hn _ ⟨a, (n : Int), rfl, ha, by omega, by omega, ?_⟩
  rw [Int.toNat_natCast]
  exact lcG_range R hR hb he hw q
/-- .. over a list -/
theorem v_lcGL {a : Addr} {ys : List V} (R : Nat → V → Hp → Prop) (hR : ∀ k v A B, Same A B → R k v A → R k v B) (hn : Val ta σ H (.ref a)) (ha : SqL K H a ys) (hb : ys.length ≤ 100000)
    (he : ∀ i y H1, ys[i]? = some y → Same H H1 → ∀ Q : VK, (∀ v H2, Same H1 H2 → R i v (mi H2 H1) → Q v H2) → te ((wipe σ vs).set j (some y)) H1 Q)
    (hw : ∀ x, wipe ((wipe σ vs).set j (some x)) vs = wipe σ vs) {Q : VK}
    (q : LcQ H R ys.length Q) : tLc (iList K ta) (gName j) tYes te vs σ H Q := by
  refine hn _ ⟨a, rfl, ⟨_, ha⟩, fun L hL => lc_list (K := K) (a := a) (xs := ys) (fun i H' => i ≤ ys.length ∧ LcI H L R i H') ⟨Nat.zero_le _, LcI.start hL⟩ ?_ ?_ ?_⟩
  · rintro i H1 _ ⟨_, p⟩
    exact p.same.seq ha
  · rintro i y H1 hy ⟨_, p⟩
    refine ⟨hw _, a_yes _ ?_⟩
    have hi : i < ys.length := (List.getElem?_eq_some_iff.mp hy).1
    refine iteT (he i y H1 hy p.same _ fun v H2 s r => ?_)
    obtain ⟨acc, h1, h2, h3⟩ := p.step hL hR s r
    exact ⟨acc, h1, Nat.lt_of_lt_of_le (show acc.length < 100001 by omega) (by decide), hi, h3⟩
  · rintro H1 ⟨_, p⟩
    obtain ⟨⟨xs, e1, e2, e3, e4⟩, s⟩ := p
    exact q L xs H1 hL s e1 e2 e3 e4
/-- an append -/
theorem st_append {a : Addr} {xs : List V} {tv : TE} {D : Ends} (hv : Val tv σ H (.ref a)) (ha : H a = some (.lst xs)) (h : ta σ H fun v H2 => rAppend (.ref a) [v] H2 fun _ H1 => D.nx σ H1) :
    tDrop (tBM K "list" rAppend tv (tCons ta tNil)) D σ H := hv _ ⟨Or.inl ⟨rfl, _, Or.inl (Or.inl ha)⟩, h⟩
/-- a list of references, by a function -/
theorem refs_of {n : Nat} {xs : List V} {P : Nat → Addr → Prop} (hl : xs.length = n) (h : ∀ k v, xs[k]? = some v → ∃ a, v = .ref a ∧ P k a) : ∃ f : Nat → Addr, xs = (List.range n).map (fun i => V.ref (f i)) ∧ ∀ k, k < n → xs[k]? = some (.ref (f k)) ∧ P k (f k) := by
  have key : ∀ k, k < n → xs[k]? = some (.ref (match xs[k]? with
    | some (.ref a) => a
    | _ => 0)) ∧ P k (match xs[k]? with
    | some (.ref a) => a
    | _ => 0) := fun k hk => by
    have e := List.getElem?_eq_getElem (l := xs) (i := k) (by omega)
    obtain ⟨a, ha, hp⟩ := h k _ e
    rw [e, ha]
    exact ⟨rfl, hp⟩
  refine ⟨fun k => match xs[k]? with
    | some (.ref a) => a
    | _ => 0, ?_, key⟩
  apply List.ext_getElem?
  intro k
  by_cases hk : k < n
  · rw [(key k hk).1, List.getElem?_map, List.getElem?_range hk] <;> rfl
  · rw [List.getElem?_eq_none (by omega), List.getElem?_eq_none (by simp; omega)]
theorem nd_range {f : Nat → Addr} {n : Nat} (h : ∀ j k, j < k → k < n → f j ≠ f k) : ((List.range n).map f).Nodup := by
  rw [List.Nodup, List.pairwise_map]
  refine List.Pairwise.imp_of_mem (fun {a b} ha hb hab => ?_) (List.pairwise_lt_range (n := n))
  exact h a b hab (List.mem_range.mp hb)
end
end Cm
set_option maxHeartbeats 1000000
namespace Cm
open PySem PySem.Spec L2
theorem CR.nodup {count : Nat} {r : CR} (a : r.Apart count) : (r.dom count).Nodup := by
  unfold CR.dom
  simp only [List.nodup_cons, List.mem_cons, List.mem_append, List.mem_map, List.mem_range, not_or, not_exists, not_and, List.nodup_append]
  refine ⟨⟨a.pm, a.pS, a.pC, fun k hk z => a.ps k hk z.symm, fun k hk z => a.pc k hk z.symm⟩, ⟨a.mS, a.mC, fun k hk z => a.ms k hk z.symm, fun k hk z => a.mc k hk z.symm⟩, ⟨a.SC, fun k hk z => a.Ss k hk z.symm, fun k hk z => a.Sc k hk z.symm⟩,
    ⟨fun k hk z => a.Cs k hk z.symm, fun k hk z => a.Cc k hk z.symm⟩, nd_range fun j k hjk hk => a.ss j k (by omega) hk (by omega), nd_range fun j k hjk hk => a.cc j k (by omega) hk (by omega), ?_⟩
  rintro _ ⟨j, hj, rfl⟩ _ ⟨k, hk, rfl⟩
  exact a.sc j k hj hk
section
variable {e : En} (T : Tx e)
include T
/-- a new list that holds a row -/
def RowR (xs : Nat → List V) (k : Nat) (v : V) (A : Hp) : Prop := ∃ a, v = .ref a ∧ A a = some (.lst (xs k))
omit T in
theorem RowR.mono {xs : Nat → List V} (k : Nat) (v : V) (A B : Hp) (s : Same A B) (h : RowR xs k v A) : RowR xs k v B := let ⟨a, e, q⟩ := h; ⟨a, e, s _ _ q⟩
theorem rep_row {σ : L2.St} {H : Hp} {ml : Addr} {words : Nat} {xs : List V} (h3 : σ[3]? = some (some (.ref ml))) (hm : SqL e.K H ml xs) (hx : xs.length = words) (hw : words ≤ 100) (Q : VK) (hml : ∀ a o, H a = none → SqL e.K (upd H a o) ml xs)
    (q : ∀ v H2, Same H H2 → RowR (fun _ => rowI words fun _ => 0) 0 v (mi H2 H) → Q v H2) : (tOp rRep (tLst (tCons (tC (.int 0)) tNil)) (tCB (rLenSeq e.K) (tCons (tVar 3) tNil))) σ H Q := by
  refine ⟨by show 1 ≤ sizeLine; decide, fun a ha => v_lenS (v_var h3) (hml a _ ha) _ ?_⟩
  rw [hx]
  refine ⟨a, (words : Int), [.int 0], rfl, rfl, upd_same, by omega, by omega, ?_, fun b hb => ?_⟩
  · rw [Int.toNat_natCast]
    exact Nat.le_trans (show 1 * words ≤ 100 by omega) (by decide)
  · rw [Int.toNat_natCast, row_zero]
    have nb : b ≠ a := fun z => by
      rw [z, upd_same] at hb
      cases hb
    have hb0 : H b = none := by
      rw [upd_ne nb] at hb
      exact hb
    exact q _ _ ((same_new ha).trans (same_new hb)) ⟨b, rfl, mi_of upd_same hb0⟩
theorem p_init (vs : List V) (H : Hp) (Q : VK) (E : XK) (h : sp_Caches___init__ e vs H Q E) : t_Caches___init__ e { nx := fun _ H' => Q .non H', rt := Q } (start N_Caches___init__ vs) H := by
  obtain ⟨p, dx, pv, count, words, f, ml, rfl, hp, hml, hc, hw, q⟩ := h
  refine st_seq (st_fld (v_var rfl) (v_var rfl) hp T.cl_Caches T.na_Caches_protocol (by show 0 < 1000; decide) ?_)
  -- what stands of ml
  have seqml : ∀ H1 : Hp, (∀ b o, H b = some o → b ≠ p → H1 b = some o) → SqL e.K H1 ml (rowI words f) := fun H1 k => by
    rcases hml with (z | ⟨o, z⟩) | z
    · exact .inl (.inl (k _ _ z (ne_of z hp (by intro q; cases q))))
    · exact .inl (.inr ⟨o, k _ _ z (ne_of z hp (by intro q; cases q))⟩)
    · exact .inr z
  have k1 : ∀ b o, H b = some o → b ≠ p → (upd H p (.ins e.Caches dx (putF "protocol" pv []))) b = some o := fun b o z n => by
    rw [upd_ne n]
    exact z
  generalize hH1 : upd H p (.ins e.Caches dx (putF "protocol" pv [])) = H1 at k1
  have p1 : H1 p = some (.ins e.Caches dx (putF "protocol" pv [])) := by
    rw [← hH1]
    exact upd_same
  have f1 : ∀ b, H1 b = none → b ≠ p ∧ H b = none := fun b z => by
    have n : b ≠ p := fun y => by
      rw [y, p1] at z
      cases z
    rw [← hH1, upd_ne n] at z
    exact ⟨n, z⟩
  -- self.memory = list(memory)
  refine st_seq ?_
  refine ⟨.ref ml, rfl, ml, _, rfl, Or.inl (seqml H1 k1), fun l hl => ⟨_, rfl, p, e.Caches, dx, _, rfl, (same_new hl) _ _ p1, T.cl_Caches, T.na_Caches_memory, (by show 1 < 1000; decide), ?_⟩⟩
  obtain ⟨nlp, hl0⟩ := f1 l hl
  generalize hH2 : upd (upd H1 l (.lst (rowI words f))) p (.ins e.Caches dx (putF "memory" (.ref l) (putF "protocol" pv []))) = H2
  have p2 : H2 p = some (.ins e.Caches dx (putF "memory" (.ref l) (putF "protocol" pv []))) := by rw [← hH2]; exact upd_same
  have l2 : H2 l = some (.lst (rowI words f)) := by rw [← hH2, upd_ne nlp, upd_same]
  have k2 : ∀ b o, H b = some o → b ≠ p → H2 b = some o := fun b o z n => by
    rw [← hH2, upd_ne n]
    exact (same_new hl) _ _ (k1 b o z n)
  have f2 : ∀ b, H2 b = none → b ≠ p ∧ H b = none ∧ b ≠ l := fun b z => by
    have n : b ≠ p := fun y => by rw [y, p2] at z; cases z
    have n2 : b ≠ l := fun y => by rw [y, l2] at z; cases z
    rw [← hH2, upd_ne n, upd_ne n2] at z
    exact ⟨n, (f1 b z).2, n2⟩
  -- self.states = [..]
  dsimp only
  refine st_seq ?_
  refine v_lcG1 (n := count) (RowR fun _ => rowI words fun _ => 0) RowR.mono (v_var rfl) (by omega) (fun i H3 hi s Q' q' => ?_) (fun _ => rfl) fun L1 xs1 H3 nL1 s23 hL1 len1 r1 ap1 => ?_
  · exact rep_row T rfl (seqml H3 fun b o z n => s _ _ (k2 b o z n)) row_len hw Q' (fun a o ha => seqml _ fun b o' z n => by
      rw [upd_ne (ne_of_none (s _ _ (k2 b o' z n)) ha)]
      exact s _ _ (k2 b o' z n)) q'
  obtain ⟨sk, rfl, hsk⟩ := refs_of (n := count) (P := fun k a => (mi H3 (upd H2 L1 (.lst []))) a = some (.lst (rowI words fun _ => 0))) len1 (fun k v hv => r1 k v hv)
  refine ⟨_, rfl, p, e.Caches, dx, _, rfl, s23 _ _ p2, T.cl_Caches, T.na_Caches_states, (by show 2 < 1000; decide), ?_⟩
  obtain ⟨nL1p, hL10, nL1l⟩ := f2 L1 nL1
  generalize hH4 : upd H3 p (.ins e.Caches dx (putF "states" (.ref L1) (putF "memory" (.ref l) (putF "protocol" pv [])))) = H4
  have p4 : H4 p = some (.ins e.Caches dx (putF "states" (.ref L1) (putF "memory" (.ref l) (putF "protocol" pv [])))) := by rw [← hH4]; exact upd_same
  have u4 : ∀ b o, H3 b = some o → b ≠ p → H4 b = some o := fun b o z n => by
    rw [← hH4, upd_ne n]
    exact z
  have k4 : ∀ b o, H b = some o → b ≠ p → H4 b = some o := fun b o z n => u4 b o (s23 _ _ (k2 b o z n)) n
  have l4 : H4 l = some (.lst (rowI words f)) := u4 _ _ (s23 _ _ l2) nlp
  have L14 : H4 L1 = some (.lst (rowR count sk)) := u4 _ _ hL1 nL1p
  -- an item of states
  have it1 : ∀ k, k < count → H3 (sk k) = some (.lst (rowI words fun _ => 0)) ∧ H2 (sk k) = none ∧ sk k ≠ L1 := fun k hk => by
    obtain ⟨h1, h2⟩ := mi_some (hsk k hk).2
    have n : sk k ≠ L1 := fun y => by rw [y, upd_same] at h2; cases h2
    rw [upd_ne n] at h2
    exact ⟨h1, h2, n⟩
  have sk4 : ∀ k, k < count → H4 (sk k) = some (.lst (rowI words fun _ => 0)) := fun k hk => u4 _ _ (it1 k hk).1 (f2 _ (it1 k hk).2.1).1
  have f4 : ∀ b, H4 b = none → b ≠ p ∧ H3 b = none := fun b z => by
    have n : b ≠ p := fun y => by rw [y, p4] at z; cases z
    rw [← hH4, upd_ne n] at z
    exact ⟨n, z⟩
  -- self.copies = [..]
  dsimp only
  refine v_lcG1 (n := count) (RowR fun _ => rowI words fun _ => 0) RowR.mono (v_var rfl) (by omega) (fun i H5 hi s Q' q' => ?_) (fun _ => rfl) fun L2 xs2 H5 nL2 s45 hL2 len2 r2 ap2 => ?_
  · exact rep_row T rfl (seqml H5 fun b o z n => s _ _ (k4 b o z n)) row_len hw Q' (fun a o ha => seqml _ fun b o' z n => by
      rw [upd_ne (ne_of_none (s _ _ (k4 b o' z n)) ha)]
      exact s _ _ (k4 b o' z n)) q'
  obtain ⟨ck, rfl, hck⟩ := refs_of (n := count) (P := fun k a => (mi H5 (upd H4 L2 (.lst []))) a = some (.lst (rowI words fun _ => 0))) len2 (fun k v hv => r2 k v hv)
  refine ⟨_, rfl, p, e.Caches, dx, _, rfl, s45 _ _ p4, T.cl_Caches, T.na_Caches_copies, (by show 3 < 1000; decide), ?_⟩
  obtain ⟨nL2p, hL23⟩ := f4 L2 nL2
  have it2 : ∀ k, k < count → H5 (ck k) = some (.lst (rowI words fun _ => 0)) ∧ H4 (ck k) = none ∧ ck k ≠ L2 := fun k hk => by
    obtain ⟨h1, h2⟩ := mi_some (hck k hk).2
    have n : ck k ≠ L2 := fun y => by rw [y, upd_same] at h2; cases h2
    rw [upd_ne n] at h2
    exact ⟨h1, h2, n⟩
  have u6 : ∀ b o, H5 b = some o → b ≠ p → (upd H5 p (.ins e.Caches dx (putF "copies" (.ref L2) (putF "states" (.ref L1) (putF "memory" (.ref l) (putF "protocol" pv [])))))) b = some o := fun b o z n => by
    rw [upd_ne n]
    exact z
  have np : ∀ b o, H4 b = some o → b ≠ p → ∀ c, H4 c = none → b ≠ c := fun b o z _ c zc => ne_of_none z zc
  have apart : (⟨p, dx, l, L1, L2, sk, ck⟩ : CR).Apart count := by
    refine ⟨nlp.symm, nL1p.symm, nL2p.symm, fun k hk => (f2 _ (it1 k hk).2.1).1.symm, fun k hk => (f4 _ (it2 k hk).2.1).1.symm, nL1l.symm, ne_of_none l4 nL2, fun k hk => (f2 _ (it1 k hk).2.1).2.2.symm, fun k hk => ne_of_none l4 (it2 k hk).2.1,
      ne_of_none L14 nL2, fun k hk => (it1 k hk).2.2.symm, fun k hk => ne_of_none L14 (it2 k hk).2.1, fun k hk => (ne_of_none (sk4 k hk) nL2).symm, fun k hk => (it2 k hk).2.2.symm, ?_, ?_, fun j k hj hk => ne_of_none (sk4 j hj) (it2 k hk).2.1⟩
    · have key : ∀ j k, j < k → k < count → sk j ≠ sk k := fun j k hjk hk => by
        obtain ⟨B, _, _, ⟨a1, e1, h1⟩, ⟨a2, e2, h2⟩⟩ := ap1 j k _ _ hjk (hsk j (by omega)).1 (hsk k hk).1
        injection e1 with e1
        injection e2 with e2
        rw [e1, e2]
        exact ne_of_none (mi_some h1).1 (mi_some h2).2
      exact fun j k hj hk hne => by
        rcases Nat.lt_or_gt_of_ne hne with z | z
        · exact key j k z hk
        · exact (key k j z hj).symm
    · have key : ∀ j k, j < k → k < count → ck j ≠ ck k := fun j k hjk hk => by
        obtain ⟨B, _, _, ⟨a1, e1, h1⟩, ⟨a2, e2, h2⟩⟩ := ap2 j k _ _ hjk (hck j (by omega)).1 (hck k hk).1
        injection e1 with e1
        injection e2 with e2
        rw [e1, e2]
        exact ne_of_none (mi_some h1).1 (mi_some h2).2
      exact fun j k hj hk hne => by
        rcases Nat.lt_or_gt_of_ne hne with z | z
        · exact key j k z hk
        · exact (key k j z hj).symm
  refine q ⟨p, dx, l, L1, L2, sk, ck⟩ _ rfl ⟨upd_same, u6 _ _ (s45 _ _ l4) nlp, u6 _ _ (s45 _ _ L14) nL1p, u6 _ _ hL2 nL2p, fun k hk => u6 _ _ (s45 _ _ (sk4 k hk)) (apart.ps k hk).symm, fun k hk => u6 _ _ (it2 k hk).1 (apart.pc k hk).symm, CR.nodup apart⟩ ?_ fun b o z n => u6 _ _ (s45 _ _ (k4 b o z n)) n
  intro b hb nb
  have h4n : H4 b = none → H b = none := fun z => by
    obtain ⟨n, z3⟩ := f4 b z
    exact (f2 b (s23.free z3)).2.1
  unfold CR.dom at hb
  simp only [List.mem_cons, List.mem_append, List.mem_map, List.mem_range] at hb
  rcases hb with rfl | rfl | rfl | rfl | ⟨k, hk, rfl⟩ | ⟨k, hk, rfl⟩
  · exact absurd rfl nb
  · exact hl0
  · exact hL10
  · exact h4n nL2
  · exact (f2 _ (it1 k hk).2.1).2.1
  · exact h4n (it2 k hk).2.1
end
end Cm
set_option maxHeartbeats 1000000
namespace Cm
open PySem PySem.Spec L2
section
variable {e : En} {K : PySem.W.Frag} {σ : L2.St} {H : Hp} {ta tb te : TE} {a : Addr} {xs : List V}
/-- a remainder of what is held in int() -/
theorem v_mod {x y : Int} (ha : Val ta σ H (.int x)) (hb : Val tb σ H (.int y)) (hc : 0 < y) : Val (tOp (rI (fun _ j => 0 < j) fun i j => .int (i % j)) ta tb) σ H (.int (x % y)) := v_I ha hb hc
theorem v_add {x y : Int} (ha : Val ta σ H (.int x)) (hb : Val tb σ H (.int y)) : Val (tOp (rI0 fun i j => .int (i + j)) ta tb) σ H (.int (x + y)) := v_I0 ha hb
theorem v_sub {x y : Int} (ha : Val ta σ H (.int x)) (hb : Val tb σ H (.int y)) : Val (tOp (rI0 fun i j => .int (i - j)) ta tb) σ H (.int (x - y)) := v_I0 ha hb
theorem v_mul {x y : Int} (ha : Val ta σ H (.int x)) (hb : Val tb σ H (.int y)) (hc : (-(2 ^ 64) < x ∧ x < 2 ^ 64) ∨ (-(2 ^ 64) < y ∧ y < 2 ^ 64)) : Val (tOp (rI CMul fun i j => .int (i * j)) ta tb) σ H (.int (x * y)) := v_I ha hb hc
theorem v_div {x y : Int} (ha : Val ta σ H (.int x)) (hb : Val tb σ H (.int y)) (hc : 0 < y ∧ y < 1073741824) : Val (tOp (rI CDiv fun i j => .int (i / j)) ta tb) σ H (.int (x / y)) := v_I ha hb hc
theorem v_divW {x y : Int} (ha : Val ta σ H (.int x)) (hb : Val tb σ H (.int y)) (hc : 0 < y ∧ y < 2 ^ 100) : Val (tOp (rI CDivW fun i j => .int (i / j)) ta tb) σ H (.int (x / y)) := v_I ha hb ⟨hc.1, by
  have h : y.natAbs < 2 ^ 100 := by omega
  have : y.natAbs.log2 < 100 := (Nat.log2_lt (by omega)).2 h
  omega⟩
theorem v_pow {i j : Int} (ha : Val ta σ H (.int i)) (hb : Val tb σ H (.int j)) (hc : CPow i j) : Val (tOp (rI CPow fun i j => .int (i ^ j.toNat)) ta tb) σ H (.int (i ^ j.toNat)) := v_I ha hb hc
theorem v_shl {i j : Int} (ha : Val ta σ H (.int i)) (hb : Val tb σ H (.int j)) (hc : CPow i j) : Val (tOp (rI CPow fun i j => .int (i * 2 ^ j.toNat)) ta tb) σ H (.int (i * 2 ^ j.toNat)) := v_I ha hb hc
theorem v_shr {i j : Int} (ha : Val ta σ H (.int i)) (hb : Val tb σ H (.int j)) (hc : 0 ≤ j) : Val (tOp (rI (fun _ j => 0 ≤ j) fun i j => .int (i / 2 ^ j.toNat)) ta tb) σ H (.int (i / 2 ^ j.toNat)) := v_I ha hb hc
theorem v_and {x y : Int} (ha : Val ta σ H (.int x)) (hb : Val tb σ H (.int y)) : Val (tOp (rI0 fun i j => .int (Builtin.bitAnd i j)) ta tb) σ H (.int (Builtin.bitAnd x y)) := v_I0 ha hb
/-- an item of a list that stands -/
theorem v_ixLs {i : Int} {v : V} (ha : Val ta σ H (.ref a)) (hb : Val tb σ H (.int i)) (hx : SqL K H a xs) (hv : atI xs i = some v) : Val (tOp (rIxL K) ta tb) σ H v := val_op ha hb fun Q q => ⟨a, xs, i, v, rfl, rfl, hx, hv, q⟩
theorem v_ixTs {i : Int} {v : V} (ha : Val ta σ H (.ref a)) (hb : Val tb σ H (.int i)) (hx : SqT K H a xs) (hv : atI xs i = some v) : Val (tOp (rIxT K) ta tb) σ H v := val_op ha hb fun Q q => ⟨a, xs, i, v, rfl, rfl, hx, hv, q⟩
theorem v_isi {x : V} {n m : String} {b : Bool} (ha : Val ta σ H x) (ty : TyX K H x (.type m)) (h : kitB m n = some b) : Val (tCB (rIsi K) (tCons ta (tCons (tC (.ty n)) tNil))) σ H (.bl b) :=
  fun Q q => ha _ ⟨x, .ty n, .type m, .type n, b, rfl, .ty n, ty, kit_ty h, q⟩
theorem v_andV {b c : Bool} (ha : Val ta σ H (.bl b)) (hb : b = true → Val tb σ H (.bl c)) (h : b = false → c = false) : Val (tAndV ta tb) σ H (.bl c) := fun Q q => ha _ ⟨b, rfl, by
  cases b with
  | true => exact iteT (hb rfl _ q)
  | false =>
    rw [h rfl] at q
    exact iteF q⟩
theorem v_orV {b c : Bool} (ha : Val ta σ H (.bl b)) (hb : b = false → Val tb σ H (.bl c)) (h : b = true → c = true) : Val (tOrV ta tb) σ H (.bl c) := fun Q q => ha _ ⟨b, rfl, by
  cases b with
  | false => exact iteF (hb rfl _ q)
  | true =>
    rw [h rfl] at q
    exact iteT q⟩
theorem v_notV {b : Bool} (ha : Val ta σ H (.bl b)) : Val (tNotV ta) σ H (.bl (!b)) := fun Q q => ha _ ⟨b, rfl, q⟩
theorem e_op {r : R2} {Q : VK} (h : ta σ H fun x H1 => tb σ H1 fun y H2 => r x y H2 Q) : tOp r ta tb σ H Q := h
theorem e_cb {r : List V → Hp → VK → Prop} {t : TA} {Q : VK} (h : t σ H fun xs H1 => r xs H1 Q) : tCB r t σ H Q := h
theorem e_cb1 {r : List V → Hp → VK → Prop} {Q : VK} (h : ta σ H fun x H1 => r [x] H1 Q) : tCB r (tCons ta tNil) σ H Q := h
theorem e_cb2 {r : List V → Hp → VK → Prop} {Q : VK} (h : ta σ H fun x H1 => tb σ H1 fun y H2 => r [x, y] H2 Q) : tCB r (tCons ta (tCons tb tNil)) σ H Q := h
theorem e_lst {t : TA} {ys : List V} {Q : VK} (ha : Arg t σ H ys) (hl : ys.length ≤ 1000) (q : ∀ p, H p = none → Q (.ref p) (upd H p (.lst ys))) : tLst t σ H Q := ha _ ⟨Nat.le_trans hl (by decide), q⟩
theorem e_tup {t : TA} {ys : List V} {Q : VK} (ha : Arg t σ H ys) (hl : ys.length ≤ 1000) (q : ∀ p, H p = none → Q (.ref p) (upd H p (.tup ys))) : tTup t σ H Q := ha _ ⟨Nat.le_trans hl (by decide), q⟩
theorem tyx_list (h : SqL K H a xs) : TyX K H (.ref a) (.type "list") := by
  rcases h with (h | ⟨o, h⟩) | ⟨o, its, n, h, c, _⟩
  · exact .base (.lst h)
  · exact .base (.frz h)
  · exact .kList h c
theorem tyx_tup (h : SqT K H a xs) : TyX K H (.ref a) (.type "tuple") := by
  rcases h with (h | ⟨o, h⟩) | ⟨o, its, n, h, c, _⟩
  · exact .base (.tup h)
  · exact .fTuple h
  · exact .kTuple h c
theorem atI_at {α : Type} {ys : List α} {i : Nat} (h : i < ys.length) : ∃ v, ys[i]? = some v ∧ atI ys (i : Int) = some v := ⟨ys[i], List.getElem?_eq_getElem h, atI_nat (List.getElem?_eq_getElem h)⟩
theorem row_snoc {α : Type} {g : α → V} {n : Nat} {f : Nat → α} : row g (n + 1) f = row g n f ++ [g (f n)] := by
  unfold row
  rw [List.range_succ, List.map_append] <;> rfl
theorem row_put {α : Type} {g : α → V} {n : Nat} {f : Nat → α} {v : α} : row g (n + 1) (fset f n v) = row g n f ++ [g v] := by
  rw [row_snoc, fset_same, row_congr (f := fset f n v) (f' := f) fun k hk => fset_ne (by omega)]
theorem p_law_number (vs : List V) (H : Hp) (Q : VK) (E : XK) (h : sp_law_number e vs H Q E) : t_law_number e { nx := fun _ H' => Q .non H', rt := Q } (start N_law_number vs) H := by
  obtain ⟨i, rfl, q⟩ := h
  exact st_ret (v_andV (v_isi (v_var rfl) (.base (.int i)) (show kitB "int" "int" = some true by decide +kernel)) (fun _ => v_notV (v_isi (v_var rfl) (.base (.int i)) (show kitB "int" "bool" = some false by decide +kernel))) (by simp)) q
theorem p_law_cell (vs : List V) (H : Hp) (Q : VK) (E : XK) (h : sp_law_cell e vs H Q E) : t_law_cell e { nx := fun _ H' => Q .non H', rt := Q } (start N_law_cell vs) H := by
  obtain ⟨a, ns, k, rfl, ha, q⟩ := h
  refine st_seq (st_set val_c ?_)
  have key : ∀ z : Int, (tSeq (tIfS (tTest (tOp (rI0 fun i j => .bl (decide (j ≤ i))) (tVar 2) (tOp (rI CPow fun i j => .int (i ^ j.toNat)) (tC (.int 10)) (tC (.int 18)))))
    (tRet (tVar 2))
    tNext)
    (tRet (tOp (rI0 fun i j => .int (i + j)) (tOp (rI CMul fun i j => .int (i * j)) (tVar 2) (tC (.int 64))) (tVar 1)))) { nx := fun _ H' => Q .non H', rt := Q } [some (.ref a), some (.int (k : Int)), some (.int z)] H := fun z => by
    refine st_seq (st_if (a_ge (v_var rfl) (v_pow val_c val_c ⟨by decide, by decide, by decide⟩) rfl) (fun _ => st_ret (v_var rfl) (q _)) fun _ => st_next (st_ret (v_add (v_mul (v_var rfl) val_c (.inr ⟨by decide, by decide⟩)) (v_var rfl)) (q _)))
  have hl : ((ns.map V.int).length : Int) = (ns.length : Int) := by rw [List.length_map]
  refine st_seq (st_if (ans_and2 (a_lt (v_var rfl) (v_lenS (v_var rfl) ha) rfl) (a_lt (v_var rfl) val_c rfl)) (fun hb => ?_) fun _ => ?_)
  · rw [Bool.and_eq_true, decide_eq_true_eq, decide_eq_true_eq] at hb
    have hk : k < (ns.map V.int).length := by omega
    obtain ⟨v, hv, hat⟩ := atI_at hk
    rw [List.getElem?_map] at hv
    obtain ⟨z, hz, rfl⟩ := Option.map_eq_some_iff.mp hv
    exact st_set (v_abs (v_int (v_ixLs (v_var rfl) (v_var rfl) ha hat))) (key _)
  · refine st_if (a_gt (v_lenS (v_var rfl) ha) val_c rfl) (fun hb => ?_) fun _ => st_next (key _)
    rw [decide_eq_true_eq] at hb
    obtain ⟨v, hv, hat⟩ := atI_at (show 0 < (ns.map V.int).length by omega)
    rw [List.getElem?_map] at hv
    obtain ⟨z, hz, rfl⟩ := Option.map_eq_some_iff.mp hv
    exact st_set (v_add (v_mod (v_int (v_abs (v_int (v_ixLs (v_var rfl) val_c ha hat)))) val_c (by decide)) (v_mul val_c (v_mod (v_lenS (v_var rfl) ha) val_c (by decide)) (.inl ⟨by decide, by decide⟩))) (key _)
theorem p_law_mix (vs : List V) (H : Hp) (Q : VK) (E : XK) (h : sp_law_mix e vs H Q E) : t_law_mix e { nx := fun _ H' => Q .non H', rt := Q } (start N_law_mix vs) H := by
  obtain ⟨i, j, rfl, q⟩ := h
  have sq : ∀ z n : Int, 0 < n → n < 2 ^ 40 → (-(2 ^ 64) < z % n ∧ z % n < 2 ^ 64) := fun z n n0 n1 => ⟨by
    have := Int.emod_nonneg z (show n ≠ 0 by omega)
    omega, by
    have := Int.emod_lt_of_pos z n0
    omega⟩
  refine st_seq (st_set (v_mod (v_int (v_add (v_add (v_mul (v_var rfl) val_c (.inr ⟨by decide, by decide⟩)) (v_mul (v_var rfl) val_c (.inr ⟨by decide, by decide⟩))) val_c)) val_c (by decide)) ?_)
  have hx := sq (i * 48271 + j * 69621 + 11) 2147483647 (by decide) (by decide)
  generalize (i * 48271 + j * 69621 + 11) % 2147483647 = x at hx ⊢
  refine st_seq (st_set (v_mod (v_int (v_add (v_add (v_mul (v_var rfl) (v_var rfl) (.inl hx)) (v_mul (v_var rfl) val_c (.inr ⟨by decide, by decide⟩))) val_c)) val_c (by decide)) ?_)
  have hy := sq (x * x + j * 7919 + 3) 2147483629 (by decide) (by decide)
  generalize (x * x + j * 7919 + 3) % 2147483629 = y at hy ⊢
  refine st_seq (st_set (v_mod (v_int (v_add (v_add (v_mul (v_var rfl) (v_var rfl) (.inl hy)) (v_div (v_var rfl) val_c ⟨by decide, by decide⟩)) (v_var rfl))) val_c (by decide)) ?_)
  exact st_ret (v_div (v_var rfl) val_c ⟨by decide, by decide⟩) (q _)
theorem p_law_value (vs : List V) (H : Hp) (Q : VK) (E : XK) (h : sp_law_value e vs H Q E) : t_law_value e { nx := fun _ H' => Q .non H', rt := Q } (start N_law_value vs) H := by
  obtain ⟨x, top, rfl, h1, h2, q⟩ := h
  have h0 : 0 < top := by omega
  refine st_seq (st_set (v_mod (v_int (v_var rfl)) val_c (by decide)) ?_)
  refine st_seq (st_set (v_mod (v_int (v_div (v_var rfl) val_c ⟨by decide, by decide⟩)) (v_var rfl) h0) ?_)
  generalize hr : x / 8 % top = r
  have r0 : 0 ≤ r ∧ r < top := by rw [← hr]; exact ⟨Int.emod_nonneg _ (by omega), Int.emod_lt_of_pos _ h0⟩
  obtain ⟨r0, r1⟩ := r0
  have hd : Arg (tCons (tC (.int 0)) (tCons (tC (.int 1)) (tCons (tOp (rI0 fun i j => .int (i - j)) (tVar 1) (tC (.int 1))) (tCons (tOp (rI CDiv fun i j => .int (i / j)) (tVar 1) (tC (.int 2))) (tCons (tOp (rI (fun _ j => 0 < j) fun i j => .int (i % j)) (tCB rInt1 (tCons (tVar 3) tNil)) (tC (.int 256))) (tCons (tVar 3) (tCons (tOp (rI0 fun i j => .int (i - j)) (tOp (rI0 fun i j => .int (i - j)) (tVar 1) (tC (.int 1))) (tVar 3)) (tCons (tOp (rI (fun _ j => 0 < j) fun i j => .int (i % j)) (tCB rInt1 (tCons (tOp (rI CMul fun i j => .int (i * j)) (tVar 3) (tC (.int 40503))) tNil)) (tVar 1)) tNil)))))))) [some (.int x), some (.int top), some (.int (x % 8)), some (.int r)] H
    [.int 0, .int 1, .int (top - 1), .int (top / 2), .int (r % 256), .int r, .int (top - 1 - r), .int (r * 40503 % top)] :=
    arg_cons val_c (arg_cons val_c (arg_cons (v_sub (v_var rfl) val_c) (arg_cons (v_div (v_var rfl) val_c ⟨by decide, by decide⟩) (arg_cons (v_mod (v_int (v_var rfl)) val_c (by decide)) (arg_cons (v_var rfl) (arg_cons (v_sub (v_sub (v_var rfl) val_c) (v_var rfl)) (arg_cons (v_mod (v_int (v_mul (v_var rfl) val_c (.inr ⟨by decide, by decide⟩))) (v_var rfl) h0) arg_nil)))))))
  have b7 : 0 ≤ r * 40503 % top ∧ r * 40503 % top < top := ⟨Int.emod_nonneg _ (by omega), Int.emod_lt_of_pos _ h0⟩
  refine st_rt (e_op (e_lst hd (by show 8 ≤ 1000; decide) fun p hp => ?_))
  have s1 : Same H (upd H p (.lst [.int 0, .int 1, .int (top - 1), .int (top / 2), .int (r % 256), .int r, .int (top - 1 - r), .int (r * 40503 % top)])) := same_new hp
  show ∃ w, [some (V.int x), some (V.int top), some (V.int (x % 8)), some (V.int r)][2]? = some (some w) ∧ _
  refine ⟨_, rfl, ?_⟩
  have fin : ∀ z : Int, 0 ≤ z → z < top → Q (.int z) (upd H p (.lst [.int 0, .int 1, .int (top - 1), .int (top / 2), .int (r % 256), .int r, .int (top - 1 - r), .int (r * 40503 % top)])) := fun z z0 z1 => q z _ z0 z1 s1
  have at8 : ∃ z : Int, atI [V.int 0, .int 1, .int (top - 1), .int (top / 2), .int (r % 256), .int r, .int (top - 1 - r), .int (r * 40503 % top)] (x % 8) = some (.int z) ∧ 0 ≤ z ∧ z < top := by
    have h8 : x % 8 = 0 ∨ x % 8 = 1 ∨ x % 8 = 2 ∨ x % 8 = 3 ∨ x % 8 = 4 ∨ x % 8 = 5 ∨ x % 8 = 6 ∨ x % 8 = 7 := by omega
    rcases h8 with z | z | z | z | z | z | z | z <;> rw [z]
    · exact ⟨0, rfl, by omega, by omega⟩
    · exact ⟨1, rfl, by omega, by omega⟩
    · exact ⟨top - 1, rfl, by omega, by omega⟩
    · exact ⟨top / 2, rfl, by omega, by omega⟩
    · exact ⟨r % 256, rfl, by omega, by omega⟩
    · exact ⟨r, rfl, r0, r1⟩
    · exact ⟨top - 1 - r, rfl, by omega, by omega⟩
    · exact ⟨r * 40503 % top, rfl, b7⟩
  obtain ⟨z, hz, z0, z1⟩ := at8
  exact ⟨p, _, x % 8, _, rfl, rfl, SqL.of upd_same, hz, fin z z0 z1⟩
theorem p_law_draws (vs : List V) (H : Hp) (Q : VK) (E : XK) (h : sp_law_draws e vs H Q E) : t_law_draws e { nx := fun _ H' => Q .non H', rt := Q } (start N_law_draws vs) H := by
  obtain ⟨cell, count, base, rfl, hc, b0, b1, q⟩ := h
  refine st_seq (st_set (v_var rfl) ?_)
  refine st_seq (st_set (v_mod (v_int (v_var rfl)) val_c (by decide)) ?_)
  refine st_seq ?_
  refine ⟨by show 0 ≤ sizeLine; decide, fun L hL => ?_⟩
  generalize hlow : cell % 1000000007 = low
  dsimp only
  refine st_seq (st_forR (n := count) (v_var rfl) (by omega) (fun i σ H1 => ∃ (rest : Int) (z : Option V) (f : Nat → Int), σ = [some (.int cell), some (.int (count : Int)), some (.int base), some (.int rest), some (.int low), some (.ref L), z] ∧ Same H H1 ∧ H1 L = some (.lst (rowI i f)) ∧ ∀ k, k < i → 0 ≤ f k ∧ f k < base)
    ⟨cell, none, fun _ => 0, rfl, same_new hL, upd_same, fun k hk => absurd hk (Nat.not_lt_zero _)⟩ ?_ ?_)
  · rintro i σ H1 hi ⟨rest, z, f, rfl, s, h1, hb⟩
    have nw : ∀ v : Int, 0 ≤ v → v < base → Same H (upd H1 L (.lst (rowI i f ++ [.int v]))) ∧ (upd H1 L (.lst (rowI i f ++ [.int v]))) L = some (.lst (rowI (i + 1) (fset f i v))) ∧ ∀ k, k < i + 1 → 0 ≤ fset f i v k ∧ fset f i v k < base := fun v v0 v1 => by
      refine ⟨fun b o hbo => ?_, ?_, fun k hk => ?_⟩
      · rw [upd_ne (ne_of_none hbo hL)]
        exact s _ _ hbo
      · rw [upd_same]
        exact congrArg (fun y => some (HO.lst y)) (row_put (g := V.int)).symm
      · by_cases hk2 : k = i
        · rw [hk2, fset_same]
          exact ⟨v0, v1⟩
        · rw [fset_ne hk2]
          exact hb k (by omega)
    have ln : (rowI i f).length < sizeLine := by
      rw [row_len]
      exact Nat.lt_of_lt_of_le (show i < 1000 by omega) (by decide)
    refine st_if (ans_and2 (a_ge (v_var rfl) (v_pow val_c val_c ⟨by decide, by decide, by decide⟩) rfl) (a_gt (v_var rfl) val_c rfl)) (fun _ => ?_) fun _ => ?_
    · refine st_seq (st_append (v_var rfl) h1 ?_)
      refine v_mod (v_int (v_var rfl)) (v_var rfl) b0 _ ?_
      refine ⟨L, _, _, rfl, rfl, h1, ln, ?_⟩
      obtain ⟨n1, n2, n3⟩ := nw (rest % base) (Int.emod_nonneg _ (by omega)) (Int.emod_lt_of_pos _ b0)
      exact st_set (v_divW (v_var rfl) (v_var rfl) ⟨b0, b1⟩) ⟨rest / base, _, _, rfl, n1, n2, n3⟩
    · refine st_append (v_var rfl) h1 ?_
      refine v_call (arg_cons (v_var rfl) (arg_cons (v_var rfl) arg_nil)) ⟨low, i, rfl, fun y => ?_⟩
      refine Or.inl ⟨y, rfl, .int base, rfl, y, base, rfl, rfl, b0, ?_⟩
      obtain ⟨n1, n2, n3⟩ := nw (y % base) (Int.emod_nonneg _ (by omega)) (Int.emod_lt_of_pos _ b0)
      exact ⟨L, _, _, rfl, rfl, h1, ln, rest, _, _, rfl, n1, n2, n3⟩
  · rintro σ H1 ⟨rest, z, f, rfl, s, h1, hb⟩
    exact st_ret (v_var rfl) (q L f H1 hL s h1 hb)
end
end Cm
set_option maxHeartbeats 1000000
namespace Cm
open PySem PySem.Spec L2
section
variable {e : En} {K : PySem.W.Frag} {σ : L2.St} {H : Hp} {ta tb te : TE} {a : Addr} {xs : List V}
/-- sequences: a list or a tuple -/
def SqA (K : PySem.W.Frag) (H : Hp) (a : Addr) (xs : List V) : Prop := SqL K H a xs ∨ SqT K H a xs
theorem v_lenA (ha : Val ta σ H (.ref a)) (hx : SqA K H a xs) : Val (tCB (rLenSeq K) (tCons ta tNil)) σ H (.int (xs.length : Int)) := fun Q q => ha _ ⟨a, xs, rfl, hx, q⟩
theorem v_ixA {i : Int} {v : V} (ha : Val ta σ H (.ref a)) (hb : Val tb σ H (.int i)) (hx : SqA K H a xs) (hv : atI xs i = some v) : Val (tOp (rIx K) ta tb) σ H v := val_op ha hb fun Q q => by
  rcases hx with hx | hx
  · exact Or.inl ⟨a, xs, i, v, rfl, rfl, hx, hv, q⟩
  · exact Or.inr (Or.inl ⟨a, xs, i, v, rfl, rfl, hx, hv, q⟩)
theorem v_eqD {x y : V} {d : PyData} (ha : Val ta σ H x) (hb : Val tb σ H y) (hx : Dp K H x d) (hy : Dp K H y d) (hs : SeqAt.shaped d = true) : Val (tOp (rEqD K) ta tb) σ H (.bl true) := val_op ha hb fun Q q => ⟨d, d, hx, hy, hs, hs, by
  rw [SeqAt.eqv_refl d (SeqAt.canLay_of_shaped hs)]
  exact q⟩
theorem v_callP {sp : Sp} {t : TA} {vs : List V} {v : V} (ha : Arg t σ H vs) (h : ∀ Q : VK, Q v H → sp (vs ++ []) H Q C8.E0) : Val (tCall sp [] C8.E0 t) σ H v := fun Q q => ha _ (h Q q)
theorem kb_bb : kitB "bool" "bool" = some true := by decide +kernel
theorem kb_ib : kitB "int" "bool" = some false := by decide +kernel
theorem kb_ii : kitB "int" "int" = some true := by decide +kernel
theorem kb_sb : kitB "str" "bool" = some false := by decide +kernel
theorem kb_si : kitB "str" "int" = some false := by decide +kernel
theorem kb_ss : kitB "str" "str" = some true := by decide +kernel
theorem kb_lb : kitB "list" "bool" = some false := by decide +kernel
theorem kb_li : kitB "list" "int" = some false := by decide +kernel
theorem kb_ls : kitB "list" "str" = some false := by decide +kernel
theorem kb_lt : kitB "list" "tuple" = some false := by decide +kernel
theorem kb_ll : kitB "list" "list" = some true := by decide +kernel
theorem kb_tb : kitB "tuple" "bool" = some false := by decide +kernel
theorem kb_ti : kitB "tuple" "int" = some false := by decide +kernel
theorem kb_ts : kitB "tuple" "str" = some false := by decide +kernel
theorem kb_tt : kitB "tuple" "tuple" = some true := by decide +kernel
theorem kb_tl : kitB "tuple" "list" = some false := by decide +kernel
theorem DpAll.len : ∀ {vs : List V} {ds : List PyData}, DpAll K H vs ds → vs.length = ds.length
  | _, _, .nil => rfl
  | _, _, .cons _ t => congrArg (· + 1) (DpAll.len t)
theorem DpAll.at : ∀ {vs : List V} {ds : List PyData} {i : Nat}, DpAll K H vs ds → i < ds.length → ∃ v d, vs[i]? = some v ∧ d ∈ ds ∧ ds[i]? = some d ∧ Dp K H v d
  | _, _, _, .nil, h => absurd h (Nat.not_lt_zero _)
  | _, _, 0, .cons h _, _ => ⟨_, _, rfl, List.mem_cons_self .., rfl, h⟩
  | _, _, i + 1, .cons _ t, h => by
    obtain ⟨v, d, e1, e2, e3, e4⟩ := DpAll.at (i := i) t (by simpa using h)
    exact ⟨v, d, by simpa using e1, List.mem_cons_of_mem _ e2, by simpa using e3, e4⟩
theorem v_eqS {x : V} (ha : Val ta σ H x) (hb : Val tb σ H x) (hs : scal x x = true) : Val (tOp rEq ta tb) σ H (.bl true) := val_op ha hb fun Q q => ⟨hs, by
  rw [decide_eq_true rfl]
  exact q⟩
theorem p_law_same (n : Nat) (vs : List V) (H : Hp) (Q : VK) (E : XK) (h : sp_same e (n + 1) vs H Q E) : t_law_same e (sp_same e n) { nx := fun _ H' => Q .non H', rt := Q } (start N_law_same vs) H := by
  obtain ⟨x, y, d, rfl, hx, hy, hs, q⟩ := h
  -- a sequence
  have sq : ∀ (a b : Addr) (xs ys : List V) (ds : List PyData), x = .ref a → y = .ref b → SqA e.K H a xs → SqA e.K H b ys → DpAll e.K H xs ds → DpAll e.K H ys ds → ds.length ≤ 1000000 → (∀ d, d ∈ ds → smd n d) →
      (∃ m, (m = "list" ∨ m = "tuple") ∧ TyX e.K H x (.type m) ∧ TyX e.K H y (.type m)) → t_law_same e (sp_same e n) { nx := fun _ H' => Q .non H', rt := Q } (start N_law_same [x, y]) H := by
    rintro a b xs ys ds rfl rfl ha hb hxs hys hz hsm ⟨m, hm, tx, ty⟩
    have l1 := DpAll.len hxs
    have l2 := DpAll.len hys
    refine st_seq (st_no (ans_isN (v_var rfl) (decide_eq_false (fun z => nomatch z))) (st_next ?_))
    dsimp only
    refine st_seq (st_no (a_B (v_isi (v_var rfl) ty (show kitB m "bool" = some false from by rcases hm with rfl | rfl <;> first | exact kb_lb | exact kb_tb))) (st_next ?_))
    dsimp only
    refine st_seq (st_no (a_B (v_isi (v_var rfl) ty (show kitB m "int" = some false from by rcases hm with rfl | rfl <;> first | exact kb_li | exact kb_ti))) (st_next ?_))
    dsimp only
    refine st_seq (st_no (a_B (v_isi (v_var rfl) ty (show kitB m "str" = some false from by rcases hm with rfl | rfl <;> first | exact kb_ls | exact kb_ts))) (st_next ?_))
    dsimp only
    have ki : ∀ k : String, (k = "tuple" ∨ k = "list") → ∃ c, kitB m k = some c := fun k hk => by
      rcases hm with rfl | rfl <;> rcases hk with rfl | rfl
      · exact ⟨_, kb_lt⟩
      · exact ⟨_, kb_ll⟩
      · exact ⟨_, kb_tt⟩
      · exact ⟨_, kb_tl⟩
    obtain ⟨c1, k1⟩ := ki "tuple" (.inl rfl)
    obtain ⟨c2, k2⟩ := ki "list" (.inr rfl)
    refine st_seq (st_no ((ans_and2 (a_B (v_isi (v_var rfl) ty k1)) (ans_not (a_B (v_isi (v_var rfl) tx k1)))).to (by cases c1 <;> rfl)) (st_next ?_))
    dsimp only
    refine st_seq (st_no ((ans_and2 (a_B (v_isi (v_var rfl) ty k2)) (ans_not (a_B (v_isi (v_var rfl) tx k2)))).to (by cases c2 <;> rfl)) (st_next ?_))
    dsimp only
    refine st_seq (st_no (a_neI (v_lenA (v_var rfl) ha) (v_lenA (v_var rfl) hb) (by rw [l1, l2]; simp)) (st_next ?_))
    dsimp only
    refine st_seq (st_forR (n := ys.length) (v_lenA (v_var rfl) hb) (by omega) (fun i σ H1 => ∃ z, σ = [some (.ref a), some (.ref b), z] ∧ H1 = H) ⟨_, rfl, rfl⟩ ?_ ?_)
    · rintro i σ H1 hi ⟨z, rfl, rfl⟩
      obtain ⟨v, dv, e1, m1, f1, g1⟩ := DpAll.at (i := i) hxs (by omega)
      obtain ⟨w, dw, e2, m2, f2, g2⟩ := DpAll.at (i := i) hys (by omega)
      obtain rfl : dv = dw := Option.some.inj (f1.symm.trans f2)
      refine st_no (ans_not (a_B (v_callP (v := .bl true) (arg_cons (v_ixA (v_var rfl) (v_var rfl) ha (atI_nat e1)) (arg_cons (v_ixA (v_var rfl) (v_var rfl) hb (atI_nat e2)) arg_nil)) fun Q' q' => ⟨v, w, dv, rfl, g1, g2, hsm dv m1, q'⟩))) (st_next ⟨_, rfl, rfl⟩)
    · rintro σ H1 ⟨z, rfl, rfl⟩
      dsimp only
      exact st_ret val_c q
  cases hx with
  | non =>
    cases hy
    exact st_seq (st_yes (ans_isN (v_var rfl) rfl) (st_ret (val_op (v_var rfl) val_c fun Q' q' => ⟨rfl, q'⟩) q))
  | bl b =>
    cases hy
    refine st_seq (st_no (ans_isN (v_var rfl) (decide_eq_false (fun z => nomatch z))) (st_next ?_))
    dsimp only
    exact st_seq (st_yes (a_B (v_isi (v_var rfl) (.base (.bl b)) kb_bb)) (st_ret (v_andV (v_isi (v_var rfl) (.base (.bl b)) kb_bb) (fun _ => v_eqS (v_var rfl) (v_var rfl) rfl) (by simp)) q))
  | int i =>
    cases hy
    refine st_seq (st_no (ans_isN (v_var rfl) (decide_eq_false (fun z => nomatch z))) (st_next ?_))
    dsimp only
    refine st_seq (st_no (a_B (v_isi (v_var rfl) (.base (.int i)) kb_ib)) (st_next ?_))
    dsimp only
    exact st_seq (st_yes (a_B (v_isi (v_var rfl) (.base (.int i)) kb_ii)) (st_ret (v_andV (v_callP (v := .bl true) (arg_cons (v_var rfl) arg_nil) fun Q' q' => ⟨i, rfl, q'⟩) (fun _ => v_eqS (v_var rfl) (v_var rfl) rfl) (by simp)) q))
  | str z =>
    cases hy
    refine st_seq (st_no (ans_isN (v_var rfl) (decide_eq_false (fun z => nomatch z))) (st_next ?_))
    dsimp only
    refine st_seq (st_no (a_B (v_isi (v_var rfl) (.base (.str z)) kb_sb)) (st_next ?_))
    dsimp only
    refine st_seq (st_no (a_B (v_isi (v_var rfl) (.base (.str z)) kb_si)) (st_next ?_))
    dsimp only
    exact st_seq (st_yes (a_B (v_isi (v_var rfl) (.base (.str z)) kb_ss)) (st_ret (v_andV (v_isi (v_var rfl) (.base (.str z)) kb_ss) (fun _ => v_eqS (v_var rfl) (v_var rfl) rfl) (by simp)) q))
  | @lst a xs ds ha hxs =>
    cases hy with
    | @lst b ys ds hb hys => exact sq a b xs ys ds rfl rfl (.inl ha) (.inl hb) hxs hys hs.1 hs.2 ⟨"list", .inl rfl, tyx_list ha, tyx_list hb⟩
  | @tup a xs ds ha hxs =>
    cases hy with
    | @tup b ys ds hb hys => exact sq a b xs ys ds rfl rfl (.inr ha) (.inr hb) hxs hys hs.1 hs.2 ⟨"tuple", .inr rfl, tyx_tup ha, tyx_tup hb⟩
end
end Cm
set_option maxHeartbeats 1000000
namespace Cm
open PySem PySem.Spec L2
section
variable {K : PySem.W.Frag} {σ : L2.St} {H : Hp} {ta tb te : TE} {a : Addr} {xs : List V}
theorem e_tupL {Q : VK} (ha : Val ta σ H (.ref a)) (hx : SqL K H a xs) (q : ∀ l, H l = none → Q (.ref l) (upd H l (.tup xs))) : tCB (rTupOf K) (tCons ta tNil) σ H Q := ha _ ⟨a, xs, rfl, Or.inl ⟨hx, q⟩⟩
theorem e_lstL {Q : VK} (ha : Val ta σ H (.ref a)) (hx : SqL K H a xs) (q : ∀ l, H l = none → Q (.ref l) (upd H l (.lst xs))) : tCB (rListOf K) (tCons ta tNil) σ H Q := ha _ ⟨a, xs, rfl, Or.inl hx, q⟩
/-- a tuple of items that are data, new against H0 -/
theorem dp_tup {H0 H' : Hp} {n : Nat} {g : Nat → PyData} {l : Addr} (hl : H' l = none) (s : Same H0 H') (hn : xs.length = n) (h : ∀ k v, xs[k]? = some v → Dp K (mi H' H0) v (g k)) : Dp K (mi (upd H' l (.tup xs)) H0) (.ref l) (.tuple ((List.range n).map g)) := by
  refine .tup (SqT.of (mi_of upd_same (s.free hl))) (DpAll.of (by simp [hn]) fun i v d hv hd => ?_)
  rw [List.getElem?_map] at hd
  obtain ⟨j, hj, rfl⟩ := Option.map_eq_some_iff.mp hd
  have e : j = i := by
    have h2 := (List.getElem?_eq_some_iff.mp hj).2
    rw [List.getElem_range] at h2
    exact h2.symm
  subst e
  exact Dp.mono (mi_mono (fun b o q _ => by rw [upd_ne (ne_of_none q hl)]; exact q) fun b n => n) (h _ _ hv)
/-- what lies outside of L -/
def hide (H : Hp) (L : Addr) : Hp := fun b => if b = L then none else H b
theorem hide_at {L b : Addr} {o : HO} (h : H b = some o) (n : b ≠ L) : hide H L b = some o := by
  unfold hide
  rw [if_neg n]
  exact h
theorem hide_le {L : Addr} : Same (hide H L) H := fun b o h => by
  unfold hide at h
  split at h
  · cases h
  · exact h
theorem hide_ne {L b : Addr} {o : HO} (h : hide H L b = some o) : b ≠ L := fun e => by
  unfold hide at h
  rw [if_pos e] at h
  cases h
theorem hide_upd {L : Addr} {o : HO} : hide (upd H L o) L = hide H L := by
  funext b
  unfold hide
  by_cases h : b = L
  · rw [if_pos h, if_pos h]
  · rw [if_neg h, if_neg h, upd_ne h]
theorem hide_mono {H1 H2 : Hp} {L : Addr} (s : Same H1 H2) : Same (hide H1 L) (hide H2 L) := fun b o h => hide_at (s _ _ (hide_le b o h)) (hide_ne h)
end
section
variable {e : En} (T : Tx e)
include T
/-- a pair of numbers -/
theorem e_pair {K : PySem.W.Frag} {σ : L2.St} {H : Hp} {ta tb : TE} {x y : Int} {Q : VK} (ha : Val ta σ H (.int x)) (hb : Val tb σ H (.int y)) (q : ∀ v H2, Same H H2 → Dp K (mi H2 H) v (.tuple [.int x, .int y]) → Q v H2) :
    tTup (tCons ta (tCons tb tNil)) σ H Q := e_tup (arg_cons ha (arg_cons hb arg_nil)) (by show 2 ≤ 1000; decide) fun p hp => q _ _ (same_new hp) (.tup (SqT.of (mi_of upd_same hp)) (.cons (.int _) (.cons (.int _) .nil)))
theorem p_told (vs : List V) (H : Hp) (Q : VK) (E : XK) (h : sp_Caches_told e vs H Q E) : t_Caches_told e { nx := fun _ H' => Q .non H', rt := Q } (start N_Caches_told vs) H := by
  obtain ⟨count, words, r, pv, X, rfl, ca, hc, hw, q⟩ := h
  refine st_seq (e_cb1 ?_)
  refine v_lenL (v_M T rfl ca) ca.hm _ ?_
  rw [row_len]
  refine ⟨(words : Int), rfl, fun R hR => ?_⟩
  dsimp only
  refine st_seq ?_
  refine e_lst arg_nil (by show 0 ≤ 1000; decide) fun L hL => ?_
  have s2 : Same H (upd (upd H R (.rng 0 (words : Int))) L (.lst [])) := (same_new hR).trans (same_new hL)
  have hL0 : H L = none := (same_new (o := .rng 0 (words : Int)) hR).free hL
  have nRL : R ≠ L := fun z => by
    rw [← z, upd_same] at hL
    cases hL
  have r2 : (upd (upd H R (.rng 0 (words : Int))) L (.lst [])) R = some (.rng 0 (words : Int)) := by rw [upd_ne nRL, upd_same]
  have l2 : (upd (upd H R (.rng 0 (words : Int))) L (.lst [])) L = some (.lst []) := upd_same
  generalize hH2 : upd (upd H R (.rng 0 (words : Int))) L (.lst []) = H2 at s2 r2 l2
  dsimp only
  let g : Nat → PyData := fun k => .tuple ((List.range words).map fun w => .tuple [.int ((X w).s k : Nat), .int ((X w).c k)])
  have hlen : Val (tCB (rLenSeq e.K) (tCons (tFld e.K (tVar 0) "states") tNil)) [some (.ref r.p), some (.ref R), some (.ref L), none, none] H2 (.int (count : Int)) := by
    have := v_lenL (K := e.K) (v_S T (i := 0) (σ := [some (.ref r.p), some (.ref R), some (.ref L), none, none]) rfl (ca.same s2)) (ca.same s2).hS
    rw [row_len] at this
    exact this
  refine st_seq (st_forR (n := count) hlen (by omega) (fun i σ H' => ∃ z, σ = [some (.ref r.p), some (.ref R), some (.ref L), z, none] ∧ Same H H' ∧ H' R = some (.rng 0 (words : Int)) ∧ ∃ xs : List V, H' L = some (.lst xs) ∧ xs.length = i ∧ ∀ k v, xs[k]? = some v → Dp e.K (hide H' L) v (g k))
    ⟨_, rfl, s2, r2, [], l2, rfl, fun k v hv => by simp at hv⟩ ?_ ?_)
  · rintro i σ H' hi ⟨z, rfl, s', r', xs, l', len, items⟩
    have ca' := ca.same s'
    refine st_append (v_var rfl) l' ?_
    refine e_cb1 ?_
    refine v_lcGV (n := words) (fun w v A => Dp e.K A v (.tuple [.int ((X w).s i : Nat), .int ((X w).c i)])) (fun _ _ _ _ m h => Dp.mono m h) (v_var rfl) r' (by omega) (fun w H3 hw3 s3 Q' q' => ?_) (fun _ => rfl) fun C cs H3 nC s3 hC lenC itC _ => ?_
    · exact e_pair T (v_Skw T rfl (ca'.same s3) (v_var rfl) hi (v_var rfl) hw3) (v_Ckw T rfl (ca'.same s3) (v_var rfl) hi (v_var rfl) hw3) q'
    · refine ⟨C, cs, rfl, Or.inl ⟨SqL.of hC, fun t ht => ?_⟩⟩
      have nC' : ∀ b, (upd H' C (.lst [])) b = none → H' b = none := fun b n => by
        by_cases hb : b = C
        · rw [hb]
          exact nC
        · rw [upd_ne hb] at n
          exact n
      have d : Dp e.K (mi (upd H3 t (.tup cs)) H') (.ref t) (g i) := dp_tup ht s3 lenC fun k v hv => Dp.mono (mi_mono (fun b o q _ => q) nC') (itC k v hv)
      have s4 : Same H' (upd H3 t (.tup cs)) := s3.trans (same_new ht)
      refine ⟨L, xs, _, rfl, rfl, s4 _ _ l', Nat.lt_of_lt_of_le (show xs.length < 1000 by omega) (by decide), _, rfl, fun b o hb => ?_, ?_, _, upd_same, by rw [List.length_append, len] <;> rfl, fun k v hv => ?_⟩
      · rw [upd_ne (ne_of_none hb hL0)]
        exact s4 _ _ (s' _ _ hb)
      · rw [upd_ne nRL]
        exact s4 _ _ r'
      · rw [hide_upd]
        by_cases hk : k < xs.length
        · rw [List.getElem?_append_left hk] at hv
          exact Dp.mono (hide_mono s4) (items k v hv)
        · have ek : k = i := by
            have := (List.getElem?_eq_some_iff.mp hv).1
            rw [List.length_append] at this
            simp at this
            omega
          subst ek
          rw [List.getElem?_append_right (by omega), len, Nat.sub_self] at hv
          obtain rfl := Option.some.inj hv
          exact Dp.mono (fun b o hb => hide_at (mi_le b o hb) fun z => by
            rw [z] at hb
            have := (mi_some hb).2
            rw [l'] at this
            cases this) d
  · rintro σ H' ⟨z, rfl, s', r', xs, l', len, items⟩
    have ca' := ca.same s'
    dsimp only
    refine st_rt ?_
    show (tCB (rTupOf e.K) (tCons (tFld e.K (tVar 0) "memory") tNil)) _ H' _
    refine e_tupL (v_M T rfl ca') (SqL.of ca'.hm) fun t1 n1 => ?_
    show (tCB (rTupOf e.K) (tCons (tVar 2) tNil)) _ _ _
    have s1 := same_new (o := .tup (rowI words fun w => (X w).m)) n1
    refine e_tupL (v_var rfl) (SqL.of (s1 _ _ l')) fun t2 n2 => ?_
    have s3 := same_new (o := .tup xs) n2
    refine ⟨by show 2 ≤ sizeLine; decide, fun t n3 => ?_⟩
    have s4 := same_new (o := .tup [.ref t1, .ref t2]) n3
    refine q t _ (s'.trans (s1.trans (s3.trans s4))) (.tup (SqT.of upd_same) (.cons (.tup (SqT.of (s4 _ _ (s3 _ _ upd_same))) Dp.ints) (.cons (.tup (SqT.of (s4 _ _ upd_same)) (DpAll.of (by simp [len]) fun i v d hv hd => ?_)) .nil)))
    rw [List.getElem?_map] at hd
    obtain ⟨j, hj, rfl⟩ := Option.map_eq_some_iff.mp hd
    have ej : j = i := by
      have h2 := (List.getElem?_eq_some_iff.mp hj).2
      rw [List.getElem_range] at h2
      exact h2.symm
    subst ej
    exact Dp.mono (hide_le.trans (s1.trans (s3.trans s4))) (items _ _ hv)
end
end Cm
set_option maxHeartbeats 1000000
namespace Cm
open PySem PySem.Spec L2
theorem new2 {H : Hp} {x dx : Addr} {o u : HO} (hx : H x = none) (hd : H dx = none) : Same H (upd (upd H dx u) x o) := fun b v h => by
  rw [upd_ne (ne_of_none h hx), upd_ne (ne_of_none h hd)]
  exact h
section
variable {e : En} (T : Tx e)
include T
/-- a list of copies of rows -/
theorem e_rows {σ : L2.St} {H : Hp} {tl : TE} {a : Addr} {n j : Nat} {sk : Nat → Addr} {ys : Nat → List V} (hl : Val tl σ H (.ref a)) (ha : H a = some (.lst (rowR n sk))) (hn : n ≤ 100) (hk : ∀ k, k < n → H (sk k) = some (.lst (ys k)))
    (hw : ∀ x, wipe ((wipe σ [j]).set j (some x)) [j] = wipe σ [j]) (hj : ∀ x, ((wipe σ [j]).set j (some x))[j]? = some (some x)) {Q : VK}
    (q : ∀ (L : Addr) (f : Nat → Addr) (H' : Hp), H L = none → Same H H' → H' L = some (.lst (rowR n f)) → (∀ k, k < n → H' (f k) = some (.lst (ys k)) ∧ H (f k) = none ∧ f k ≠ L) → (∀ j k, j < k → k < n → f j ≠ f k) → Q (.ref L) H') :
    tLc (iList e.K tl) (gName j) tYes (tCB (rListOf e.K) (tCons (tVar j) tNil)) [j] σ H Q := by
  refine v_lcGL (K := e.K) (a := a) (ys := rowR n sk) (RowR ys) RowR.mono hl (SqL.of ha) (by rw [row_len]; omega) (fun i y H1 hy s Q' q' => ?_) hw fun L xs H' nL s hL len r ap => ?_
  · have hi : i < n := by
      have := (List.getElem?_eq_some_iff.mp hy).1
      rw [row_len] at this
      exact this
    rw [row_get (g := V.ref) hi] at hy
    obtain rfl := Option.some.inj hy
    refine e_lstL (v_var (hj _)) (SqL.of (s _ _ (hk i hi))) fun l hl => q' _ _ (same_new hl) ⟨l, rfl, mi_of upd_same hl⟩
  · rw [row_len] at len
    obtain ⟨f, rfl, hf⟩ := refs_of (n := n) (P := fun k a => (mi H' (upd H L (.lst []))) a = some (.lst (ys k))) len (fun k v hv => r k v hv)
    refine q L f H' nL s hL (fun k hk => ?_) fun j k hjk hk => ?_
    · obtain ⟨h1, h2⟩ := mi_some (hf k hk).2
      have n : f k ≠ L := fun y => by rw [y, upd_same] at h2; cases h2
      rw [upd_ne n] at h2
      exact ⟨h1, h2, n⟩
    · obtain ⟨B, _, _, ⟨a1, e1, h1⟩, ⟨a2, e2, h2⟩⟩ := ap j k _ _ hjk (hf j (by omega)).1 (hf k hk).1
      injection e1 with e1
      injection e2 with e2
      rw [e1, e2]
      exact ne_of_none (mi_some h1).1 (mi_some h2).2
theorem p_copy (vs : List V) (H : Hp) (Q : VK) (E : XK) (h : sp_Caches_copy e vs H Q E) : t_Caches_copy e { nx := fun _ H' => Q .non H', rt := Q } (start N_Caches_copy vs) H := by
  obtain ⟨count, words, r, pv, X, rfl, ca, hc, hw, q⟩ := h
  refine st_seq (st_asg ?_)
  have hlen : Val (tCB (rLenSeq e.K) (tCons (tFld e.K (tVar 0) "states") tNil)) [some (.ref r.p), none, none, none] H (.int (count : Int)) := by
    have := v_lenL (K := e.K) (v_S T (i := 0) (σ := [some (.ref r.p), none, none, none]) rfl ca) ca.hS
    rw [row_len] at this
    exact this
  refine arg_cons (v_P T rfl ca) (arg_cons hlen (arg_cons (v_M T rfl ca) arg_nil)) _ fun x dx hx hdx hne => ?_
  have s0 := new2 (o := .ins e.Caches dx []) (u := .own x) hx hdx
  refine ⟨x, dx, pv, count, words, (fun w => (X w).m), r.m, rfl, upd_same, SqL.of (s0 _ _ ca.hm), hc, hw, fun r0 H1 hp ca0 new0 old0 => ⟨rfl, ?_⟩⟩
  have s1 : Same H H1 := fun b o hb => old0 _ _ (s0 _ _ hb) (ne_of_none hb hx)
  have caH := ca.same s1
  have nw : ∀ b, b ∈ r0.dom count → H b = none := fun b hb => by
    by_cases hbp : b = r0.p
    · rw [hbp, hp]
      exact hx
    · have := new0 b hb (by rw [← hp]; exact hbp)
      cases hz : H b with
      | none => rfl
      | some o =>
        rw [s0 _ _ hz] at this
        cases this
  subst hp
  dsimp only
  refine st_seq ?_
  refine e_rows T (n := count) (sk := r.sk) (ys := fun k => rowN words fun w => (X w).s k) (v_S T rfl caH) caH.hS hc caH.hs (fun _ => rfl) (fun _ => rfl) fun S sk' H2 nS s2 hS hsk aps => ?_
  refine ⟨_, rfl, r0.p, e.Caches, r0.dx, _, rfl, s2 _ _ ca0.ob, T.cl_Caches, T.na_Caches_states, by show 4 < 1000; decide, ?_⟩
  have ob3 : (upd H2 r0.p (.ins e.Caches r0.dx (putF "states" (.ref S) (cf pv (.ref r0.m) (.ref r0.S) (.ref r0.C))))) r0.p = some (.ins e.Caches r0.dx (cf pv (.ref r0.m) (.ref S) (.ref r0.C))) := upd_same
  have k3 : ∀ b o, H2 b = some o → b ≠ r0.p → (upd H2 r0.p (.ins e.Caches r0.dx (putF "states" (.ref S) (cf pv (.ref r0.m) (.ref r0.S) (.ref r0.C))))) b = some o := fun b o h n => by
    rw [upd_ne n]
    exact h
  have f3 : ∀ b, (upd H2 r0.p (.ins e.Caches r0.dx (putF "states" (.ref S) (cf pv (.ref r0.m) (.ref r0.S) (.ref r0.C))))) b = none → H2 b = none ∧ b ≠ r0.p := fun b h => by
    have n : b ≠ r0.p := fun z => by
      rw [z, ob3] at h
      cases h
    rw [upd_ne n] at h
    exact ⟨h, n⟩
  generalize upd H2 r0.p (.ins e.Caches r0.dx (putF "states" (.ref S) (cf pv (.ref r0.m) (.ref r0.S) (.ref r0.C)))) = H3 at ob3 k3 f3
  have ap0 := CR.apart ca0.nd
  have s3 : Same H H3 := fun b o hb => k3 _ _ (s2 _ _ (s1 _ _ hb)) fun z => by
    rw [z, hx] at hb
    cases hb
  have caH3 := ca.same s3
  have pin : ∃ o, H1 r0.p = some o := ⟨_, ca0.ob⟩
  obtain ⟨op, hop⟩ := pin
  have nSp : S ≠ r0.p := fun z => by
    rw [z, hop] at nS
    cases nS
  have nskp : ∀ k, k < count → sk' k ≠ r0.p := fun k hk z => by
    have := (hsk k hk).2.1
    rw [z, hop] at this
    cases this
  dsimp only
  refine st_seq ?_
  refine e_rows T (n := count) (sk := r.ck) (ys := fun k => rowI words fun w => (X w).c k) (v_C T rfl caH3) caH3.hC hc caH3.hc (fun _ => rfl) (fun _ => rfl) fun C ck' H4 nC s4 hC hck apc => ?_
  refine ⟨_, rfl, r0.p, e.Caches, r0.dx, _, rfl, s4 _ _ ob3, T.cl_Caches, T.na_Caches_copies, by show 4 < 1000; decide, ?_⟩
  have ob5 : (upd H4 r0.p (.ins e.Caches r0.dx (putF "copies" (.ref C) (cf pv (.ref r0.m) (.ref S) (.ref r0.C))))) r0.p = some (.ins e.Caches r0.dx (cf pv (.ref r0.m) (.ref S) (.ref C))) := upd_same
  have k5 : ∀ b o, H4 b = some o → b ≠ r0.p → (upd H4 r0.p (.ins e.Caches r0.dx (putF "copies" (.ref C) (cf pv (.ref r0.m) (.ref S) (.ref r0.C))))) b = some o := fun b o h n => by
    rw [upd_ne n]
    exact h
  generalize upd H4 r0.p (.ins e.Caches r0.dx (putF "copies" (.ref C) (cf pv (.ref r0.m) (.ref S) (.ref r0.C)))) = H5 at ob5 k5
  dsimp only
  have s5 : Same H H5 := fun b o hb => k5 _ _ (s4 _ _ (s3 _ _ hb)) fun z => by
    rw [z, hx] at hb
    cases hb
  have nCp : C ≠ r0.p := (f3 _ nC).2
  have nckp : ∀ k, k < count → ck' k ≠ r0.p := fun k hk => (f3 _ (hck k hk).2.1).2
  have m3 : H3 r0.m = some (.lst (rowI words fun w => (X w).m)) := k3 _ _ (s2 _ _ ca0.hm) ap0.pm.symm
  have S3 : H3 S = some (.lst (rowR count sk')) := k3 _ _ hS nSp
  have sk3 : ∀ k, k < count → H3 (sk' k) = some (.lst (rowN words fun w => (X w).s k)) := fun k hk => k3 _ _ (hsk k hk).1 (nskp k hk)
  have ap : (⟨r0.p, r0.dx, r0.m, S, C, sk', ck'⟩ : CR).Apart count := by
    refine ⟨ap0.pm, nSp.symm, nCp.symm, fun k hk => (nskp k hk).symm, fun k hk => (nckp k hk).symm, ne_of_none ca0.hm nS, ne_of_none m3 nC, fun k hk => ne_of_none ca0.hm (hsk k hk).2.1, fun k hk => ne_of_none m3 (hck k hk).2.1,
      ne_of_none S3 nC, fun k hk => (hsk k hk).2.2.symm, fun k hk => ne_of_none S3 (hck k hk).2.1, fun k hk => (ne_of_none (sk3 k hk) nC).symm, fun k hk => (hck k hk).2.2.symm, ?_, ?_, fun j k hj hk => ne_of_none (sk3 j hj) (hck k hk).2.1⟩
    · exact fun j k hj hk hne => by
        rcases Nat.lt_or_gt_of_ne hne with z | z
        · exact aps j k z hk
        · exact (aps k j z hj).symm
    · exact fun j k hj hk hne => by
        rcases Nat.lt_or_gt_of_ne hne with z | z
        · exact apc j k z hk
        · exact (apc k j z hj).symm
  refine st_ret (v_var rfl) (q ⟨r0.p, r0.dx, r0.m, S, C, sk', ck'⟩ H5 s5 ⟨ob5, k5 _ _ (s4 _ _ m3) ap0.pm.symm, k5 _ _ (s4 _ _ S3) nSp, k5 _ _ hC nCp, fun k hk => k5 _ _ (s4 _ _ (sk3 k hk)) (nskp k hk), fun k hk => k5 _ _ (hck k hk).1 (nckp k hk), CR.nodup ap⟩ ?_)
  intro b hb
  have f1 : ∀ b, H1 b = none → H b = none := fun b z => s1.free z
  have f3' : ∀ b, H3 b = none → H b = none := fun b z => s3.free z
  unfold CR.dom at hb
  simp only [List.mem_cons, List.mem_append, List.mem_map, List.mem_range] at hb
  rcases hb with rfl | rfl | rfl | rfl | ⟨k, hk, rfl⟩ | ⟨k, hk, rfl⟩
  · exact hx
  · exact nw _ CR.mm
  · exact f1 _ nS
  · exact f3' _ nC
  · exact f1 _ (hsk k hk).2.1
  · exact f3' _ (hck k hk).2.1
theorem p_emptied (vs : List V) (H : Hp) (Q : VK) (E : XK) (h : sp_Caches_emptied e vs H Q E) : t_Caches_emptied e { nx := fun _ H' => Q .non H', rt := Q } (start N_Caches_emptied vs) H := by
  obtain ⟨count, words, r, pp, pv, X, rfl, cp, hc, hw, q⟩ := h
  have ca := cp.ca
  refine st_seq (st_asg ?_)
  refine v_meth rfl ca rfl arg_nil ⟨count, words, r, pv, X, rfl, ca, hc, hw, fun r' H1 s1 ca1 new1 => ?_⟩
  have ca0 := ca.same s1
  have pr1 : PPat e H1 (r'.dom count) pp pv := by
    have := cp.pr
    cases pp with
    | none => exact this
    | some z =>
      obtain ⟨h1, h2, h3, h4⟩ := this
      refine ⟨h1, h2.frame fun b o _ hb => s1 _ _ hb, h3, fun b hb m => ?_⟩
      have hn := new1 b m
      have ht : ∃ o, H b = some o := by
        unfold SR.dom at hb
        simp only [List.mem_cons, List.mem_singleton, List.not_mem_nil, or_false] at hb
        rcases hb with rfl | rfl | rfl | rfl | rfl | rfl | rfl | rfl | rfl
        · obtain ⟨nm, ho⟩ := h2.ob
          exact ⟨_, ho⟩
        · exact ⟨_, h2.wr⟩
        · exact ⟨_, h2.rd⟩
        · exact ⟨_, h2.st⟩
        · exact ⟨_, h2.gr⟩
        · exact ⟨_, h2.cr⟩
        · exact ⟨_, h2.gs⟩
        · exact ⟨_, h2.cs⟩
        · exact ⟨_, h2.bk⟩
      obtain ⟨o, ho⟩ := ht
      rw [hn] at ho
      cases ho
  have okp : ∀ z, pp = some z → z.2.Ok := fun z hz => by
    subst hz
    exact cp.pr.2.2.1
  let st1 : Nat → Col → Col := fun k x => stepC (pp.map (·.2)) count ⟨.leave, k, 0, 0, 0⟩ x
  let Yf : Nat → Nat → Col := fun i w => (List.range i).foldl (fun x k => st1 k x) (X w)
  have Y0 : Yf 0 = X := rfl
  have Ys : ∀ i w, Yf (i + 1) w = st1 i (Yf i w) := fun i w => by
    show (List.range (i + 1)).foldl _ _ = _
    rw [List.range_succ, List.foldl_append] <;> rfl
  have fr0 : ∀ H2, Fr (r'.dom count) H1 H2 → Same H H2 := fun H2 f b o hb => f b o (s1 _ _ hb) fun m => by
    rw [new1 b m] at hb
    cases hb
  have pr2 : ∀ H2, Fr (r'.dom count) H1 H2 → PPat e H2 (r'.dom count) pp pv := fun H2 f => pr1.fr f
  have hlen : ∀ (z2 z3 : Option V) H2, Same H H2 → Val (tCB (rLenSeq e.K) (tCons (tFld e.K (tVar 0) "states") tNil)) [some (.ref r.p), some (.ref r'.p), z2, z3] H2 (.int (count : Int)) := fun z2 z3 H2 s => by
    have := v_lenL (K := e.K) (v_S T (i := 0) (σ := [some (.ref r.p), some (.ref r'.p), z2, z3]) rfl (ca.same s)) (ca.same s).hS
    rw [row_len] at this
    exact this
  have hlenm : ∀ (z2 z3 : Option V) H2, Same H H2 → Val (tCB (rLenSeq e.K) (tCons (tFld e.K (tVar 0) "memory") tNil)) [some (.ref r.p), some (.ref r'.p), z2, z3] H2 (.int (words : Int)) := fun z2 z3 H2 s => by
    have := v_lenL (K := e.K) (v_M T (i := 0) (σ := [some (.ref r.p), some (.ref r'.p), z2, z3]) rfl (ca.same s)) (ca.same s).hm
    rw [row_len] at this
    exact this
  dsimp only
  refine st_seq (st_forR (n := count) (hlen _ _ _ s1) (by omega) (fun i σ H2 => ∃ z2 z3, σ = [some (.ref r.p), some (.ref r'.p), z2, z3] ∧ CPat e H2 count words r' pp pv (Yf i) ∧ Fr (r'.dom count) H1 H2) ⟨_, _, rfl, ⟨by rw [Y0]; exact ca1, pr1, by rw [Y0]; exact cp.ok⟩, Fr.refl _ _⟩ ?_ ?_)
  · rintro i σ H2 hi ⟨z2, z3, rfl, cp2, f2⟩
    have e0 : (fun w => if w < 0 then Yf (i + 1) w else Yf i w) = Yf i := by
      funext w
      exact if_neg (Nat.not_lt_zero _)
    refine st_forR (n := words) (hlenm _ _ _ (fr0 _ f2)) (by omega) (fun j σ H3 => ∃ z3, σ = [some (.ref r.p), some (.ref r'.p), some (.int (i : Int)), z3] ∧ CAat e H3 count words r' pv (fun w => if w < j then Yf (i + 1) w else Yf i w) ∧ Fr (r'.dom count) H1 H3)
      ⟨_, rfl, by rw [e0]; exact cp2.ca, f2⟩ ?_ ?_
    · rintro j σ H3 hj ⟨z, rfl, ca3, f3⟩
      refine st_do (v_meth rfl ca3 rfl (arg_cons (v_var rfl) (arg_cons (v_var rfl) arg_nil)) ?_)
      refine ⟨count, words, r', pp, pv, _, ⟨.leave, i, j, 0, 0⟩, ⟨rfl, rfl⟩, ⟨ca3, pr2 _ f3, fun w => ?_⟩, hi, hj, hc, fun H4 ca4 f4 => ⟨_, rfl, ?_, f3.trans f4⟩⟩
      · by_cases hwj : w < j
        · rw [if_pos hwj, Ys]
          exact stepC_ok okp (cp2.ok w)
        · rw [if_neg hwj]
          exact cp2.ok w
      have e1 : setW (fun w => if w < j then Yf (i + 1) w else Yf i w) j (stepC (pp.map (·.2)) count ⟨.leave, i, j, 0, 0⟩ (if j < j then Yf (i + 1) j else Yf i j)) = fun w => if w < j + 1 then Yf (i + 1) w else Yf i w := by
        funext w
        unfold setW fset
        by_cases hwj : w = j
        · subst hwj
          rw [if_pos rfl, if_neg (Nat.lt_irrefl w), if_pos (by omega), Ys]
          cases pp <;> rfl
        · rw [if_neg hwj]
          by_cases hlt : w < j
          · rw [if_pos (show w < j + 1 by omega)]
            exact if_pos hlt
          · rw [if_neg (show ¬ w < j + 1 by omega)]
            exact if_neg hlt
      rw [← e1]
      exact ca4
    · rintro σ H3 ⟨z, rfl, ca3, f3⟩
      refine ⟨_, _, rfl, ⟨⟨ca3.ob, ?_, ca3.hS, ca3.hC, fun k hk => ?_, fun k hk => ?_, ca3.nd⟩, pr2 _ f3, fun w => by rw [Ys]; exact stepC_ok okp (cp2.ok w)⟩, f3⟩
      · rw [ca3.hm]
        exact congrArg (fun z => some (HO.lst z)) (row_congr fun w hw' => by rw [if_pos hw'])
      · rw [ca3.hs k hk]
        exact congrArg (fun z => some (HO.lst z)) (row_congr fun w hw' => by rw [if_pos hw'])
      · rw [ca3.hc k hk]
        exact congrArg (fun z => some (HO.lst z)) (row_congr fun w hw' => by rw [if_pos hw'])
  · rintro σ H2 ⟨z2, z3, rfl, cp2, f2⟩
    have ca2 := cp2.ca
    dsimp only
    refine st_rt ?_
    refine e_tupL (v_M T rfl ca2) (SqL.of ca2.hm) fun t nt => ?_
    exact q t _ ((fr0 _ f2).trans (same_new nt)) (.tup (SqT.of upd_same) Dp.ints)
end
end Cm
set_option maxHeartbeats 1000000
/-! The two ways to merge bytes. -/
namespace Cm
open PySem PySem.Spec L2
theorem b0r (x : Int) : Builtin.bitAnd x 0 = 0 := PyProof.Rows.bitAnd_zero x
theorem b0l (x : Int) : Builtin.bitAnd 0 x = 0 := by rw [PyProof.Rows.bitAnd_comm]; exact b0r x
theorem and8 (x y : Int) : Builtin.bitAnd x y = 256 * Builtin.bitAnd (x / 256) (y / 256) + Builtin.bitAnd (x % 256) (y % 256) := by
  have h : ∀ (k : Nat) (x y : Int), Builtin.bitAnd x y = 2 ^ k * Builtin.bitAnd (x / 2 ^ k) (y / 2 ^ k) + Builtin.bitAnd (x % 2 ^ k) (y % 2 ^ k) := by
    intro k
    induction k with
    | zero =>
      intro x y
      have e : ∀ z : Int, z % 2 ^ 0 = 0 := fun z => by simp
      rw [e, e, b0r]
      simp
    | succ k ih =>
      intro x y
      have hp : (0 : Int) < 2 ^ k := by
        have := Int.pow_pos (n := 2) (m := k) (by decide)
        exact this
      have e1 : ∀ z : Int, z / 2 ^ (k + 1) = z / 2 / 2 ^ k := fun z => by
        rw [Int.ediv_ediv_of_nonneg (by decide), Int.pow_succ, Int.mul_comm]
      have e2 : ∀ z : Int, z % 2 ^ (k + 1) = 2 * (z / 2 % 2 ^ k) + z % 2 := fun z => by
        have a1 := Int.emod_add_mul_ediv z 2
        have a2 := Int.emod_add_mul_ediv (z / 2) (2 ^ k)
        have r1 := Int.emod_nonneg (z / 2) (show (2 : Int) ^ k ≠ 0 by omega)
        have r2 := Int.emod_lt_of_pos (z / 2) hp
        have p2 : (2 : Int) ^ (k + 1) = 2 * 2 ^ k := by rw [Int.pow_succ, Int.mul_comm]
        have e3 : z = (2 * (z / 2 % 2 ^ k) + z % 2) + 2 ^ (k + 1) * (z / 2 / 2 ^ k) := by
          rw [p2, Int.mul_assoc]
          generalize 2 ^ k * (z / 2 / 2 ^ k) = m at *
          omega
        have e6 : ∀ u v : Int, u = v + 2 ^ (k + 1) * (z / 2 / 2 ^ k) → 0 ≤ v → v < 2 ^ (k + 1) → u % 2 ^ (k + 1) = v := fun u v hu h0 h1 => by
          rw [hu, Int.add_mul_emod_self_left, Int.emod_eq_of_lt h0 h1]
        exact e6 z _ e3 (by omega) (by rw [p2]; omega)
      have e4 : ∀ z : Int, z % 2 ^ (k + 1) / 2 = z / 2 % 2 ^ k := fun z => by
        rw [e2]
        omega
      have e5 : ∀ z : Int, z % 2 ^ (k + 1) % 2 = z % 2 := fun z => by
        rw [e2]
        omega
      rw [PySem.W.kbt_halves x y, PySem.W.kbt_halves (x % 2 ^ (k + 1)) (y % 2 ^ (k + 1)), e4, e4, e5, e5, e1, e1, ih (x / 2) (y / 2), Int.pow_succ, Int.mul_comm (2 ^ k) 2, Int.mul_assoc]
      omega
  exact h 8 x y
theorem and_high {m : Int} {i : Nat} (h0 : 0 ≤ m) (h1 : m < 256 ^ i) (z : Int) : Builtin.bitAnd m (z * 256 ^ i) = 0 := by
  induction i generalizing m with
  | zero =>
    have : m = 0 := by
      rw [Int.pow_zero] at h1
      omega
    rw [this, b0l]
  | succ i ih =>
    have e1 : z * 256 ^ (i + 1) = 256 * (z * 256 ^ i) := by
      rw [Int.pow_succ, ← Int.mul_assoc, Int.mul_comm]
    rw [and8, e1, Int.mul_ediv_cancel_left _ (by decide), Int.mul_emod_right, b0r, ih (by omega) (by
      rw [Int.pow_succ] at h1
      omega)]
    omega
/-- the bytes that the cover names -/
def mkR : Nat → Nat → Int
  | 0, _ => 0
  | n + 1, c => 255 * ((c % 2 : Nat) : Int) + 256 * mkR n (c / 2)
def mgR : Nat → Int → Int → Nat → Int
  | 0, _, _, _ => 0
  | n + 1, o, w, c => (if c % 2 = 1 then w % 256 else o % 256) + 256 * mgR n (o / 256) (w / 256) (c / 2)
theorem merge_R : ∀ (n : Nat) (o w : Int) (c : Nat), 0 ≤ o → o < 256 ^ n → 0 ≤ w → w < 256 ^ n → Builtin.bitOr (Builtin.bitAnd o (Builtin.bitNot (mkR n c))) (Builtin.bitAnd w (mkR n c)) = mgR n o w c
  | 0, o, w, c, h1, h2, h3, h4 => by
    obtain rfl : o = 0 := by
      rw [Int.pow_zero] at h2
      omega
    obtain rfl : w = 0 := by
      rw [Int.pow_zero] at h4
      omega
    rw [b0l, b0l]
    rfl
  | n + 1, o, w, c, h1, h2, h3, h4 => by
    rw [Int.pow_succ] at h2 h4
    have ih := merge_R n (o / 256) (w / 256) (c / 2) (by omega) (by omega) (by omega) (by omega)
    rw [PyProof.Rows.bitOr_and] at ih ⊢
    unfold mkR mgR
    rw [← ih]
    generalize mkR n (c / 2) = M
    have eN : Builtin.bitNot (255 * ((c % 2 : Nat) : Int) + 256 * M) = 256 * Builtin.bitNot M + (255 - 255 * ((c % 2 : Nat) : Int)) := by
      show -(_) - 1 = 256 * (-M - 1) + _
      omega
    rw [eN]
    have d1 : (255 * ((c % 2 : Nat) : Int) + 256 * M) / 256 = M := by omega
    have d2 : (255 * ((c % 2 : Nat) : Int) + 256 * M) % 256 = 255 * ((c % 2 : Nat) : Int) := by omega
    have d3 : (256 * Builtin.bitNot M + (255 - 255 * ((c % 2 : Nat) : Int))) / 256 = Builtin.bitNot M := by omega
    have d4 : (256 * Builtin.bitNot M + (255 - 255 * ((c % 2 : Nat) : Int))) % 256 = 255 - 255 * ((c % 2 : Nat) : Int) := by omega
    rw [and8 o, and8 w, d1, d2, d3, d4]
    generalize Builtin.bitAnd (o / 256) (Builtin.bitNot M) = P
    generalize Builtin.bitAnd (w / 256) M = R
    have hm : ∀ z : Int, Builtin.bitAnd (z % 256) 255 = z % 256 := fun z => by
      rw [PyProof.Rows.bitAnd_m8]
      omega
    by_cases hb : c % 2 = 1
    · rw [hb, if_pos rfl]
      have e1 : (255 - 255 * ((1 : Nat) : Int)) = 0 := by decide
      have e2 : (255 * ((1 : Nat) : Int)) = 255 := by decide
      rw [e1, e2, b0r, hm, and8 (256 * P + 0)]
      have f1 : (256 * P + 0) / 256 = P := by omega
      have f2 : (256 * P + 0) % 256 = 0 := by omega
      have f3 : (256 * R + w % 256) / 256 = R := by omega
      rw [f1, f2, f3, b0l]
      omega
    · have hb0 : c % 2 = 0 := by omega
      rw [hb0, if_neg (by decide)]
      have e1 : (255 - 255 * ((0 : Nat) : Int)) = 255 := by decide
      have e2 : (255 * ((0 : Nat) : Int)) = 0 := by decide
      rw [e1, e2, b0r, hm, and8 (256 * P + o % 256)]
      have f1 : (256 * R + 0) / 256 = R := by omega
      have f2 : (256 * R + 0) % 256 = 0 := by omega
      have f3 : (256 * P + o % 256) / 256 = P := by omega
      rw [f1, f2, f3, b0r]
      omega
/-- the law's sum, and its mask in steps -/
def mgS (n : Nat) (o w : Int) (c : Nat) : Int := ((List.range n).map fun k => (if c / 2 ^ k % 2 = 1 then w else o) / 2 ^ (8 * k) % 256 * 2 ^ (8 * k)).sum
def mkS (n c : Nat) : Int := ((List.range n).map fun k => ((c / 2 ^ k % 2 : Nat) : Int) * 255 * 256 ^ k).sum
theorem sum_mul {l : List Nat} {f g : Nat → Int} (h : ∀ k, f k = 256 * g k) : (l.map f).sum = 256 * (l.map g).sum := by
  induction l with
  | nil => rfl
  | cons a r ih =>
    simp only [List.map_cons, List.sum_cons]
    rw [ih, h]
    omega
theorem mgS_R : ∀ (n : Nat) (o w : Int) (c : Nat), mgS n o w c = mgR n o w c
  | 0, _, _, _ => rfl
  | n + 1, o, w, c => by
    unfold mgS mgR
    rw [← mgS_R n, List.range_succ_eq_map, List.map_cons, List.sum_cons, List.map_map]
    congr 1
    · simp only [Nat.pow_zero, Nat.div_one, Nat.mul_zero, Int.pow_zero, Int.ediv_one, Int.mul_one]
      split <;> rfl
    · refine sum_mul fun k => ?_
      show (if c / 2 ^ (k + 1) % 2 = 1 then w else o) / 2 ^ (8 * (k + 1)) % 256 * 2 ^ (8 * (k + 1)) = _
      have e1 : c / 2 ^ (k + 1) = c / 2 / 2 ^ k := by rw [Nat.div_div_eq_div_mul, Nat.pow_succ, Nat.mul_comm]
      have e2 : (2 : Int) ^ (8 * (k + 1)) = 256 * 2 ^ (8 * k) := by
        rw [Nat.mul_add, Int.pow_add, Int.mul_comm]
        rfl
      have e3 : ∀ z : Int, z / (256 * 2 ^ (8 * k)) = z / 256 / 2 ^ (8 * k) := fun z => by rw [Int.ediv_ediv_of_nonneg (by decide)]
      rw [e1, e2, e3]
      by_cases h : c / 2 / 2 ^ k % 2 = 1
      · rw [if_pos h, if_pos h, ← Int.mul_assoc, Int.mul_comm _ 256, Int.mul_assoc]
      · rw [if_neg h, if_neg h, ← Int.mul_assoc, Int.mul_comm _ 256, Int.mul_assoc]
theorem mkS_R : ∀ (n c : Nat), mkS n c = mkR n c
  | 0, _ => rfl
  | n + 1, c => by
    unfold mkS mkR
    rw [← mkS_R n, List.range_succ_eq_map, List.map_cons, List.sum_cons, List.map_map]
    congr 1
    · simp only [Nat.pow_zero, Nat.div_one, Int.pow_zero, Int.mul_one]
      rw [Int.mul_comm]
    · refine sum_mul fun k => ?_
      show ((c / 2 ^ (k + 1) % 2 : Nat) : Int) * 255 * 256 ^ (k + 1) = _
      have e1 : c / 2 ^ (k + 1) = c / 2 / 2 ^ k := by rw [Nat.div_div_eq_div_mul, Nat.pow_succ, Nat.mul_comm]
      rw [e1, Int.pow_succ, ← Int.mul_assoc, Int.mul_comm _ 256]
theorem mkS_succ (n c : Nat) : mkS (n + 1) c = mkS n c + ((c / 2 ^ n % 2 : Nat) : Int) * 255 * 256 ^ n := by
  unfold mkS
  rw [List.range_succ, List.map_append, List.sum_append]
  simp
theorem mkS_bd (c : Nat) : ∀ n, 0 ≤ mkS n c ∧ mkS n c < 256 ^ n
  | 0 => ⟨by show (0 : Int) ≤ 0; decide, by show (0 : Int) < 1; decide⟩
  | n + 1 => by
    obtain ⟨h0, h1⟩ := mkS_bd c n
    rw [mkS_succ, Int.pow_succ]
    have hp : (0 : Int) < 256 ^ n := Int.pow_pos (by decide)
    have : c / 2 ^ n % 2 = 0 ∨ c / 2 ^ n % 2 = 1 := by omega
    rcases this with z | z <;> rw [z]
    · rw [show ((0 : Nat) : Int) * 255 = 0 from rfl, Int.zero_mul]
      omega
    · rw [show ((1 : Nat) : Int) * 255 = 255 from rfl]
      omega
theorem mkS_top {c n : Nat} (h : c < 2 ^ n) : ∀ m, n ≤ m → mkS m c = mkS n c := by
  intro m hm
  induction m with
  | zero =>
    obtain rfl : n = 0 := by omega
    rfl
  | succ m ih =>
    by_cases e : n = m + 1
    · rw [e]
    · rw [mkS_succ, ih (by omega)]
      have h2 : c / 2 ^ m = 0 := Nat.div_eq_of_lt (Nat.lt_of_lt_of_le h (Nat.pow_le_pow_right (by decide) (by omega)))
      rw [h2, show (((0 : Nat) % 2 : Nat) : Int) * 255 = 0 from rfl, Int.zero_mul, Int.add_zero]
theorem merge_law {o w : Int} {c n : Nat} (ho : 0 ≤ o ∧ o < 2 ^ 64) (hw : 0 ≤ w ∧ w < 2 ^ 64) (hc : c < 2 ^ n) (hn : n ≤ 8) : Builtin.bitOr (Builtin.bitAnd o (Builtin.bitNot (mkS n c))) (Builtin.bitAnd w (mkS n c)) = mrg o w c := by
  rw [← mkS_top hc 8 hn, mkS_R, merge_R 8 o w c ho.1 ho.2 hw.1 hw.2, ← mgS_R]
  rfl
end Cm
set_option maxHeartbeats 1000000
namespace Cm
open PySem PySem.Spec L2
section
variable {e : En}
theorem bit_at (c i : Nat) : Builtin.bitAnd ((c : Int) / 2 ^ ((i : Int)).toNat) 1 = ((c / 2 ^ i % 2 : Nat) : Int) := by
  rw [PyProof.Rows.bitAnd_m1, Int.toNat_natCast]
  simp
theorem p_merge (vs : List V) (H : Hp) (Q : VK) (E : XK) (h : sp_merge e vs H Q E) : t_merge e { nx := fun _ H' => Q .non H', rt := Q } (start N_merge vs) H := by
  obtain ⟨o, n, c, rfl, ho, hn, hc, q⟩ := h
  have hb : c < 2 ^ (Builtin.Int.intBits (c : Int)) := by
    have := (PySem.intBits_le_iff (m := Builtin.Int.intBits (c : Int)) (x := (c : Int))).mp (Nat.le_refl _)
    rw [Int.natAbs_natCast] at this
    exact this
  have hb8 : Builtin.Int.intBits (c : Int) ≤ 8 := (PySem.intBits_le_iff).mpr (by rw [Int.natAbs_natCast]; omega)
  generalize hN : Builtin.Int.intBits (c : Int) = N at hb hb8
  refine st_seq (st_set val_c ?_)
  dsimp only
  have vb : Val (tBits (tVar 2)) [some (.int o), some (.int n), some (.int (c : Int)), some (.int 0), none] H (.int (N : Int)) := fun Q q => ⟨_, rfl, (c : Int), rfl, by
    rw [hN]
    exact q⟩
  refine st_seq (st_forR (n := N) vb (by omega) (fun i σ H' => ∃ z, σ = [some (.int o), some (.int n), some (.int (c : Int)), some (.int (mkS i c)), z] ∧ H' = H) ⟨_, rfl, rfl⟩ ?_ ?_)
  · rintro i σ H' hi ⟨z, rfl, rfl⟩
    have i8 : (8 * (i : Int)).toNat = 8 * i := by omega
    refine st_if (a_eqI (v_and (v_shr (v_var rfl) (v_var rfl) (by omega)) val_c) val_c rfl) (fun hb => ?_) fun hb => st_next ⟨some (.int (i : Int)), ?_, rfl⟩
    · rw [decide_eq_true_eq, bit_at] at hb
      refine st_set (v_I0 (v_var rfl) (v_shl val_c (v_mul val_c (v_var rfl) (.inl ⟨by decide, by decide⟩)) ⟨by omega, by omega, by decide⟩)) ⟨some (.int (i : Int)), ?_, rfl⟩
      have e1 : Builtin.bitOr (mkS i c) (255 * 2 ^ (8 * (i : Int)).toNat) = mkS (i + 1) c := by
        have e2 : (2 : Int) ^ (8 * i) = 256 ^ i := by
          rw [Int.pow_mul]
          rfl
        obtain ⟨h0, h1⟩ := mkS_bd c i
        rw [i8, e2, PyProof.Rows.bitOr_and, and_high h0 h1, mkS_succ, hb]
        omega
      rw [← e1]
      rfl
    · rw [decide_eq_false_iff_not, bit_at] at hb
      have e1 : mkS (i + 1) c = mkS i c := by
        rw [mkS_succ, show c / 2 ^ i % 2 = 0 by omega]
        simp
      rw [e1]
      rfl
  · rintro σ H' ⟨z, rfl, rfl⟩
    dsimp only
    have q' := q
    rw [← merge_law ho hn hb hb8] at q'
    exact st_ret (v_I0 (v_I0 (v_var rfl) (v_U (v_var rfl))) (v_I0 (v_var rfl) (v_var rfl))) q'
theorem p_law_merge (vs : List V) (H : Hp) (Q : VK) (E : XK) (h : sp_law_merge e vs H Q E) : t_law_merge e { nx := fun _ H' => Q .non H', rt := Q } (start N_law_merge vs) H := by
  obtain ⟨o, n, c, rfl, ho, hn, hc, q⟩ := h
  refine st_seq (st_set val_c ?_)
  dsimp only
  refine st_seq (st_forR (n := 8) val_c (by omega) (fun i σ H' => ∃ z y, σ = [some (.int o), some (.int n), some (.int (c : Int)), some (.int (mgS i o n c)), z, y] ∧ H' = H) ⟨_, _, rfl, rfl⟩ ?_ ?_)
  · rintro i σ H' hi ⟨z, y, rfl, rfl⟩
    have i8 : (8 * (i : Int)).toNat = 8 * i := by omega
    have hv : Val (tIf (tTest (tOp rEq (tOp (rI0 fun i j => .int (Builtin.bitAnd i j)) (tOp (rI (fun _ j => 0 ≤ j) fun i j => .int (i / 2 ^ j.toNat)) (tVar 2) (tVar 4)) (tC (.int 1))) (tC (.int 1)))) (tVar 1) (tVar 0)) [some (.int o), some (.int n), some (.int (c : Int)), some (.int (mgS i o n c)), some (.int (i : Int)), y] H' (.int (if c / 2 ^ i % 2 = 1 then n else o)) := by
      refine v_if (a_eqI (v_and (v_shr (v_var rfl) (v_var rfl) (by omega)) val_c) val_c rfl) (fun hb => ?_) fun hb => ?_
      · rw [decide_eq_true_eq, bit_at] at hb
        rw [if_pos (by omega)]
        exact v_var rfl
      · rw [decide_eq_false_iff_not, bit_at] at hb
        rw [if_neg (by omega)]
        exact v_var rfl
    refine st_seq (st_set hv ?_)
    have hz : ∀ z : Int, Builtin.bitAnd z 255 = z % 256 := fun z => PyProof.Rows.bitAnd_m8 z
    refine st_set (v_add (v_var rfl) (v_shl (v_and (v_shr (v_var rfl) (v_mul val_c (v_var rfl) (.inl ⟨by decide, by decide⟩)) (by omega)) val_c) (v_mul val_c (v_var rfl) (.inl ⟨by decide, by decide⟩)) ⟨by omega, by omega, ?_⟩)) ⟨some (.int (i : Int)), some (.int (if c / 2 ^ i % 2 = 1 then n else o)), ?_, rfl⟩
    · rw [hz]
      omega
    · rw [hz, i8]
      have e1 : mgS (i + 1) o n c = mgS i o n c + (if c / 2 ^ i % 2 = 1 then n else o) / 2 ^ (8 * i) % 256 * 2 ^ (8 * i) := by
        unfold mgS
        rw [List.range_succ, List.map_append, List.sum_append]
        simp
      rw [e1]
      rfl
  · rintro σ H' ⟨z, y, rfl, rfl⟩
    dsimp only
    exact st_ret (v_var rfl) q
end
end Cm
set_option maxHeartbeats 1000000
/-! The law's own lines. -/
namespace Cm
open PySem PySem.Spec L2
section
variable {e : En} {K : PySem.W.Frag} {σ : L2.St} {H H' : Hp} {ta tb te tl tk : TE} {a : Addr} {count k : Nat} {r : LR} {x : Col} {D : Ends}
structure LR.Ap (r : LR) : Prop where
  ls : r.l ≠ r.s
  lc : r.l ≠ r.c
  sc : r.s ≠ r.c
theorem LNat.ap (h : LNat H count r x) : r.Ap := by
  have := h.nd
  unfold LR.dom at this
  simp only [List.nodup_cons, List.mem_cons, List.not_mem_nil, or_false, not_or, List.nodup_nil, and_true, not_false_eq_true] at this
  exact ⟨this.1.1, this.1.2, this.2⟩
theorem LR.ml : r.l ∈ r.dom := List.mem_cons_self ..
theorem LR.ms : r.s ∈ r.dom := List.mem_cons_of_mem _ (List.mem_cons_self ..)
theorem LR.mc : r.c ∈ r.dom := List.mem_cons_of_mem _ (List.mem_cons_of_mem _ (List.mem_cons_self ..))
theorem LNat.frame (h : LNat H count r x) (f : ∀ b o, b ∈ r.dom → H b = some o → H' b = some o) : LNat H' count r x := ⟨f _ _ LR.ml h.l, f _ _ LR.ms h.s, f _ _ LR.mc h.c, h.nd⟩
theorem LNat.same (h : LNat H count r x) (s : Same H H') : LNat H' count r x := h.frame fun b o _ q => s b o q
theorem v_Ls (hl : Val tl σ H (.ref r.l)) (h : LNat H count r x) : Val (tOp (rIxL e.K) tl (tC (.int 0))) σ H (.ref r.s) := v_ixL (z := 0) hl val_c h.l rfl
theorem v_Lc (hl : Val tl σ H (.ref r.l)) (h : LNat H count r x) : Val (tOp (rIxL e.K) tl (tC (.int 1))) σ H (.ref r.c) := v_ixL (z := 1) hl val_c h.l rfl
theorem v_Lm (hl : Val tl σ H (.ref r.l)) (h : LNat H count r x) : Val (tOp (rIxL e.K) tl (tC (.int 2))) σ H (.int x.m) := v_ixL (z := 2) hl val_c h.l rfl
theorem v_Lsk (hl : Val tl σ H (.ref r.l)) (h : LNat H count r x) (hk : Val tk σ H (.int (k : Int))) (lk : k < count) : Val (tOp (rIxL e.K) (tOp (rIxL e.K) tl (tC (.int 0))) tk) σ H (.int (x.s k : Nat)) := v_ixL (v_Ls hl h) hk h.s (row_get (g := fun k : Nat => V.int (k : Int)) lk)
theorem v_Lck (hl : Val tl σ H (.ref r.l)) (h : LNat H count r x) (hk : Val tk σ H (.int (k : Int))) (lk : k < count) : Val (tOp (rIxL e.K) (tOp (rIxL e.K) tl (tC (.int 1))) tk) σ H (.int (x.c k)) := v_ixL (v_Lc hl h) hk h.c (row_get (g := V.int) lk)
theorem st_Ls {v : Nat} (hv : Val te σ H (.int (v : Int))) (hl : Val tl σ H (.ref r.l)) (h : LNat H count r x) (hk : Val tk σ H (.int (k : Int))) (lk : k < count) (q : ∀ H', LNat H' count r { x with s := fset x.s k v } → Fr r.dom H H' → D.nx σ H') :
    tAsg te (gSub (tOp (rIxL e.K) tl (tC (.int 0))) tk rSetL) D σ H :=
  hv _ (v_Ls hl h _ (hk _ ⟨r.s, _, _, k, rfl, rfl, h.s, row_ix lk, q _ ⟨by rw [upd_ne h.ap.ls]; exact h.l, by rw [upd_same]; exact congrArg (fun z => some (HO.lst z)) (row_set (g := fun k : Nat => V.int (k : Int)) lk), by rw [upd_ne h.ap.sc.symm]; exact h.c, h.nd⟩ (Fr.upd LR.ms)⟩))
theorem st_Lc {v : Int} (hv : Val te σ H (.int v)) (hl : Val tl σ H (.ref r.l)) (h : LNat H count r x) (hk : Val tk σ H (.int (k : Int))) (lk : k < count) (q : ∀ H', LNat H' count r { x with c := fset x.c k v } → Fr r.dom H H' → D.nx σ H') :
    tAsg te (gSub (tOp (rIxL e.K) tl (tC (.int 1))) tk rSetL) D σ H :=
  hv _ (v_Lc hl h _ (hk _ ⟨r.c, _, _, k, rfl, rfl, h.c, row_ix lk, q _ ⟨by rw [upd_ne h.ap.lc]; exact h.l, by rw [upd_ne h.ap.sc]; exact h.s, by rw [upd_same]; exact congrArg (fun z => some (HO.lst z)) (row_set (g := V.int) lk), h.nd⟩ (Fr.upd LR.mc)⟩))
theorem st_Lm {v : Int} (hv : Val te σ H (.int v)) (hl : Val tl σ H (.ref r.l)) (h : LNat H count r x) (q : ∀ H', LNat H' count r { x with m := v } → Fr r.dom H H' → D.nx σ H') :
    tAsg te (gSub tl (tC (.int 2)) rSetL) D σ H :=
  hv _ (hl _ ⟨r.l, _, 2, 2, rfl, rfl, h.l, rfl, q _ ⟨upd_same, by rw [upd_ne h.ap.ls.symm]; exact h.s, by rw [upd_ne h.ap.lc.symm]; exact h.c, h.nd⟩ (Fr.upd LR.ml)⟩)
/-! ### the table -/
variable {t : TR} {p : Pr} {i : Nat}
theorem TBat.frame (h : TBat H t p) (f : ∀ b o, b ∈ t.dom p.n → H b = some o → H' b = some o) : TBat H' t p := by
  have m : ∀ i, i ≤ p.n → t.ra i ∈ t.dom p.n ∧ t.fa i ∈ t.dom p.n := fun i hi =>
    ⟨List.mem_cons_of_mem _ (List.mem_cons_of_mem _ (List.mem_append_left _ (List.mem_map.mpr ⟨i, List.mem_range.mpr (by omega), rfl⟩))), List.mem_cons_of_mem _ (List.mem_cons_of_mem _ (List.mem_append_right _ (List.mem_map.mpr ⟨i, List.mem_range.mpr (by omega), rfl⟩)))⟩
  exact ⟨f _ _ (List.mem_cons_self ..) h.hd, f _ _ (List.mem_cons_of_mem _ (List.mem_cons_self ..)) h.rows, fun i hi => f _ _ (m i hi).1 (h.ra i hi), fun i hi => f _ _ (m i hi).2 (h.fa i hi)⟩
theorem TBat.fr {F : List Addr} (h : TBat H t p) (f : Fr F H H') (d : ∀ b, b ∈ t.dom p.n → b ∉ F) : TBat H' t p := h.frame fun b o hb q => f b o q (d b hb)
theorem v_dK {kvs : List (Key × V)} {s : Str} {v : V} (ha : Val ta σ H (.ref a)) (h : H a = some (.dK kvs)) (hv : valV kvs (.inr s) = some v) : Val (tDGet ta (tC (.str s))) σ H v := fun Q q => ha _ ⟨a, v, rfl, by
  have := DGet.k (k := .inr s) h
  rw [hv] at this
  exact this, q⟩
theorem v_Trows (ha : Val ta σ H (.ref t.a)) (h : TBat H t p) : Val (tDGet ta (tC (.str "rows"))) σ H (.ref t.rows) := v_dK ha h.hd rfl
theorem v_Tshared (ha : Val ta σ H (.ref t.a)) (h : TBat H t p) : Val (tDGet ta (tC (.str "shared"))) σ H (.int (p.shared : Nat)) := v_dK ha h.hd rfl
theorem v_Tlone (ha : Val ta σ H (.ref t.a)) (h : TBat H t p) : Val (tDGet ta (tC (.str "lone"))) σ H (.int (p.lone : Nat)) := v_dK ha h.hd rfl
theorem v_Town (ha : Val ta σ H (.ref t.a)) (h : TBat H t p) : Val (tDGet ta (tC (.str "own"))) σ H (.int (p.own : Nat)) := v_dK ha h.hd rfl
theorem v_Tthr (ha : Val ta σ H (.ref t.a)) (h : TBat H t p) : Val (tDGet ta (tC (.str "through"))) σ H (.bl p.thr) := v_dK ha h.hd rfl
theorem v_Trow (ha : Val ta σ H (.ref t.a)) (h : TBat H t p) (hk : Val tk σ H (.int (i : Int))) (hi : i ≤ p.n) : Val (tOp (rIxL e.K) (tDGet ta (tC (.str "rows"))) tk) σ H (.ref (t.ra i)) := v_ixL (v_Trows ha h) hk h.rows (row_get (g := V.ref) (by omega))
theorem v_Rw (hr : Val tl σ H (.ref (t.ra i))) (h : TBat H t p) (hi : i ≤ p.n) : Val (tOp (rIxT e.K) tl (tC (.int 0))) σ H (.int (p.wr i : Nat)) := v_ixT (z := 0) hr val_c (h.ra i hi) rfl
theorem v_Rf (hr : Val tl σ H (.ref (t.ra i))) (h : TBat H t p) (hi : i ≤ p.n) : Val (tOp (rIxT e.K) tl (tC (.int 3))) σ H (.ref (t.fa i)) := v_ixT (z := 3) hr val_c (h.ra i hi) rfl
theorem flat_flags : ((flagsL p i).map V.str).all flatV = true := by
  rw [List.all_map]
  exact List.all_eq_true.mpr fun _ _ => rfl
theorem a_in {s : Str} {b : Bool} {ys : List Str} (hs : Val ta σ H (.str s)) (hr : Val tb σ H (.ref a)) (h : H a = some (.lst (ys.map V.str))) (hb : inV (.str s) (ys.map V.str) = b) : Ans (tTest (tOp (rIn K false) ta tb)) σ H b :=
  ans_cmp hs hr fun Q q => ⟨a, _, rfl, Or.inl (SqL.of h), rfl, by rw [List.all_map]; exact List.all_eq_true.mpr fun _ _ => rfl, by
    show Q (.bl (if false = true then _ else inV (.str s) (ys.map V.str))) H
    rw [if_neg (by decide), hb]
    exact q⟩
theorem in_gr : inV (.str "giveread") ((flagsL p i).map V.str) = p.gr i := by
  unfold flagsL
  cases p.gr i <;> cases p.cr i <;> cases p.gs i <;> cases p.cs i <;> cases p.bk i <;> decide
theorem in_cr : inV (.str "cleanread") ((flagsL p i).map V.str) = p.cr i := by
  unfold flagsL
  cases p.gr i <;> cases p.cr i <;> cases p.gs i <;> cases p.cs i <;> cases p.bk i <;> decide
theorem in_gs : inV (.str "givesteal") ((flagsL p i).map V.str) = p.gs i := by
  unfold flagsL
  cases p.gr i <;> cases p.cr i <;> cases p.gs i <;> cases p.cs i <;> cases p.bk i <;> decide
theorem in_cs : inV (.str "cleansteal") ((flagsL p i).map V.str) = p.cs i := by
  unfold flagsL
  cases p.gr i <;> cases p.cr i <;> cases p.gs i <;> cases p.cs i <;> cases p.bk i <;> decide
theorem in_bk : inV (.str "back") ((flagsL p i).map V.str) = p.bk i := by
  unfold flagsL
  cases p.gr i <;> cases p.cr i <;> cases p.gs i <;> cases p.cs i <;> cases p.bk i <;> decide
/-! ### the mirror in steps -/
def hold (i c : Nat) (x : Col) : List Nat := (List.range i).filter fun k => decide (k ≠ c) && decide (0 < x.s k)
theorem hold_succ {i c : Nat} : hold (i + 1) c x = hold i c x ++ (if i ≠ c ∧ 0 < x.s i then [i] else []) := by
  unfold hold
  rw [List.range_succ, List.filter_append, List.filter_cons]
  by_cases h : i ≠ c ∧ 0 < x.s i
  · rw [if_pos h, if_pos (by simp [h.1, h.2])]
    rfl
  · rw [if_neg h, if_neg (by
      intro z
      rw [Bool.and_eq_true, decide_eq_true_eq, decide_eq_true_eq] at z
      exact h z)]
    rfl
theorem hold_lt {i c k : Nat} (h : k ∈ hold i c x) : k < i := List.mem_range.mp (List.mem_filter.mp h).1
theorem moved_put {mv : Nat → Nat} {hs : List Nat} {k : Nat} (nd : (hs ++ [k]).Nodup) : mvC k (mv (x.s k)) (moved mv hs x) = moved mv (hs ++ [k]) x := by
  have h := moved_step (mv := mv) (x := x) (hs := hs ++ [k]) (i := hs.length) (k := k) nd (by simp)
  have e1 : (hs ++ [k]).take hs.length = hs := by simp
  have e2 : (hs ++ [k]).take (hs.length + 1) = hs ++ [k] := List.take_of_length_le (by simp)
  rw [e1, e2] at h
  exact h
theorem given_put {gv : Nat → Bool} {hs : List Nat} {k : Nat} : given gv (hs ++ [k]) x = (given gv hs x).or (if gv (x.s k) = true then some (x.c k) else none) := by
  unfold given
  rw [List.find?_append]
  cases List.find? (fun k => gv (x.s k)) hs with
  | some j => rfl
  | none =>
    rw [List.find?_cons]
    cases gv (x.s k) <;> rfl
def optV : Option Int → V
  | none => .non
  | some z => .int z
end
section
variable {e : En}
theorem p_law_others (vs : List V) (H : Hp) (Q : VK) (E : XK) (h : sp_law_others e vs H Q E) : t_law_others e { nx := fun _ H' => Q .non H', rt := Q } (start N_law_others vs) H := by
  obtain ⟨t, p, count, r, x, c, w, rfl, tp, ln, ok, hc, q⟩ := h
  obtain ⟨-, tb, pok, dis⟩ := tp
  -- the words of the way
  have key : ∀ (cl gv : Str) (mi : Nat), (∀ i, inV (.str cl) ((flagsL p i).map V.str) = w.cl p i) → (∀ i, inV (.str gv) ((flagsL p i).map V.str) = w.gv p i) → (∀ i, ([V.int (p.wr i : Nat), .int (p.rd i : Nat), .int (p.st i : Nat), .ref (t.fa i)])[mi]? = some (.int (w.mv p i : Nat))) →
      w.args = [.str cl, .str gv, .int (mi : Int)] → t_law_others e { nx := fun _ H' => Q .non H', rt := Q } (start N_law_others ([.ref t.a, .ref r.l, .int (c : Int)] ++ w.args)) H := by
    intro cl gv mi hcl hgv hmi hargs
    rw [hargs]
    refine st_seq (st_set val_c ?_)
    refine st_seq (st_set val_c ?_)
    dsimp only
    let X : Nat → Col := fun i => { moved (w.mv p) (hold i c x) x with m := cleaned (w.cl p) (hold i c x) x }
    have hlen : Val (tCB (rLenSeq e.K) (tCons (tOp (rIxL e.K) (tVar 1) (tC (.int 0))) tNil)) [some (.ref t.a), some (.ref r.l), some (.int (c : Int)), some (.str cl), some (.str gv), some (.int (mi : Int)), some (.bl false), some .non, none, none] H (.int (count : Int)) := by
      have := v_lenL (K := e.K) (v_Ls (e := e) (tl := tVar 1) (σ := [some (.ref t.a), some (.ref r.l), some (.int (c : Int)), some (.str cl), some (.str gv), some (.int (mi : Int)), some (.bl false), some .non, none, none]) (v_var rfl) ln) ln.s
      rw [row_len] at this
      exact this
    refine st_seq (st_forR (n := count) hlen (by omega) (fun i σ H' => ∃ z8 z9, σ = [some (.ref t.a), some (.ref r.l), some (.int (c : Int)), some (.str cl), some (.str gv), some (.int (mi : Int)), some (.bl (decide (0 < (hold i c x).length))), some (optV (given (w.gv p) (hold i c x) x)), z8, z9] ∧
      Fr r.dom H H' ∧ LNat H' count r (X i)) ⟨_, _, rfl, Fr.refl _ _, ?_⟩ ?_ ?_)
    · have e0 : X 0 = x := by
        show ({ moved (w.mv p) [] x with m := x.m } : Col) = x
        rw [moved_nil]
      rw [e0]
      exact ln
    · rintro i σ H1 hi ⟨z8, z9, rfl, f1, ln1⟩
      have tb1 := tb.fr f1 dis
      have ni : i ∉ hold i c x := fun m => Nat.lt_irrefl _ (hold_lt m)
      have es : (X i).s i = x.s i := moved_s ni
      have ec : (X i).c i = x.c i := moved_c ni
      have vs1 : ∀ σ' : L2.St, σ'[1]? = some (some (.ref r.l)) → σ'[8]? = some (some (.int (i : Int))) → Val (tOp (rIxL e.K) (tOp (rIxL e.K) (tVar 1) (tC (.int 0))) (tVar 8)) σ' H1 (.int (x.s i : Nat)) := fun σ' h1 h8 => by
        have := v_Lsk (e := e) (v_var h1) ln1 (v_var h8) hi
        rw [es] at this
        exact this
      refine st_if (ans_and2 (a_neI (v_var rfl) (v_var rfl) rfl) (a_gt (vs1 _ rfl rfl) val_c rfl)) (fun hb => ?_) fun hb => st_next ⟨some (.int (i : Int)), z9, ?_, f1, ?_⟩
      · have hcond : i ≠ c ∧ 0 < x.s i := by
          rw [Bool.and_eq_true, Bool.not_eq_true', decide_eq_false_iff_not, decide_eq_true_eq] at hb
          exact ⟨fun z => hb.1 (by rw [z]), by omega⟩
        have hs1 : hold (i + 1) c x = hold i c x ++ [i] := by rw [hold_succ, if_pos hcond]
        have nd1 : (hold i c x ++ [i]).Nodup := by
          rw [← hs1]
          exact List.Pairwise.filter _ List.nodup_range
        have hn : x.s i ≤ p.n := ok.st i
        refine st_seq (st_set val_c ?_)
        refine st_seq (st_set (v_Trow (v_var rfl) tb1 (vs1 _ rfl rfl) hn) ?_)
        dsimp only
        -- the rest, once memory is told
        have go3 : ∀ (gi : Option Int) (H2 : Hp) (M : Int), gi = given (w.gv p) (hold (i + 1) c x) x → M = cleaned (w.cl p) (hold (i + 1) c x) x → Fr r.dom H H2 → LNat H2 count r { X i with m := M } →
            (tSeq (tAsg (tOp (rIxT e.K) (tVar 9) (tVar 5)) (gSub (tOp (rIxL e.K) (tVar 1) (tC (.int 0))) (tVar 8) rSetL)) (tIfS (tTest (tOp rEq (tOp (rIxT e.K) (tVar 9) (tVar 5)) (tC (.int 0)))) (tAsg (tC (.int 0)) (gSub (tOp (rIxL e.K) (tVar 1) (tC (.int 1))) (tVar 8) rSetL)) tNext))
              { nx := fun σ H' => ∃ z8 z9, σ = [some (.ref t.a), some (.ref r.l), some (.int (c : Int)), some (.str cl), some (.str gv), some (.int (mi : Int)), some (.bl (decide (0 < (hold (i + 1) c x).length))), some (optV (given (w.gv p) (hold (i + 1) c x) x)), z8, z9] ∧ Fr r.dom H H' ∧ LNat H' count r (X (i + 1)), rt := Q }
              [some (.ref t.a), some (.ref r.l), some (.int (c : Int)), some (.str cl), some (.str gv), some (.int (mi : Int)), some (.bl true), some (optV gi), some (.int (i : Int)), some (.ref (t.ra (x.s i)))] H2 := by
          intro gi H2 M hgi hM f2 ln2
          have tb2 := tb.fr f2 dis
          have et : (decide (0 < (hold (i + 1) c x).length)) = true := decide_eq_true (by rw [hs1]; simp)
          have vm : ∀ (H3 : Hp) (σ' : L2.St), TBat H3 t p → σ'[9]? = some (some (.ref (t.ra (x.s i)))) → σ'[5]? = some (some (.int (mi : Int))) → Val (tOp (rIxT e.K) (tVar 9) (tVar 5)) σ' H3 (.int (w.mv p (x.s i) : Nat)) := fun H3 σ' tb3 h9 h5 => v_ixT (v_var h9) (v_var h5) (tb3.ra _ hn) (hmi _)
          refine st_seq (st_Ls (vm _ _ tb2 rfl rfl) (v_var rfl) ln2 (v_var rfl) hi fun H3 ln3 f3 => ?_)
          have tb3 := tb2.fr f3 dis
          have eX : X (i + 1) = { mvC i (w.mv p (x.s i)) (X i) with m := M } := by
            show ({ moved (w.mv p) (hold (i + 1) c x) x with m := cleaned (w.cl p) (hold (i + 1) c x) x } : Col) = _
            rw [hM, hs1, ← moved_put nd1]
            rfl
          rw [et, ← hgi, eX]
          refine st_if (a_eqI (vm _ _ tb3 rfl rfl) val_c rfl) (fun hz => ?_) fun hz => st_next ⟨_, _, rfl, f2.trans f3, ?_⟩
          · rw [decide_eq_true_eq] at hz
            refine st_Lc val_c (v_var rfl) ln3 (v_var rfl) hi fun H4 ln4 f4 => ⟨_, _, rfl, (f2.trans f3).trans f4, ?_⟩
            have e1 : mvC i (w.mv p (x.s i)) (X i) = ⟨fset (X i).s i (w.mv p (x.s i)), fset (X i).c i 0, (X i).m⟩ := by
              unfold mvC
              rw [if_pos (by omega)]
            rw [e1]
            exact ln4
          · rw [decide_eq_false_iff_not] at hz
            have e1 : mvC i (w.mv p (x.s i)) (X i) = ⟨fset (X i).s i (w.mv p (x.s i)), (X i).c, (X i).m⟩ := by
              unfold mvC
              rw [if_neg (by omega)]
            rw [e1]
            exact ln3
        have go2 : ∀ (H2 : Hp) (M : Int), M = cleaned (w.cl p) (hold (i + 1) c x) x → Fr r.dom H H2 → LNat H2 count r { X i with m := M } →
            (tSeq (tIfS (tAnd (tTest (tOp rIsN (tVar 7) (tC .non))) (tTest (tOp (rIn e.K false) (tVar 4) (tOp (rIxT e.K) (tVar 9) (tC (.int 3)))))) (tAsg (tOp (rIxL e.K) (tOp (rIxL e.K) (tVar 1) (tC (.int 1))) (tVar 8)) (gName 7)) tNext)
              (tSeq (tAsg (tOp (rIxT e.K) (tVar 9) (tVar 5)) (gSub (tOp (rIxL e.K) (tVar 1) (tC (.int 0))) (tVar 8) rSetL)) (tIfS (tTest (tOp rEq (tOp (rIxT e.K) (tVar 9) (tVar 5)) (tC (.int 0)))) (tAsg (tC (.int 0)) (gSub (tOp (rIxL e.K) (tVar 1) (tC (.int 1))) (tVar 8) rSetL)) tNext)))
              { nx := fun σ H' => ∃ z8 z9, σ = [some (.ref t.a), some (.ref r.l), some (.int (c : Int)), some (.str cl), some (.str gv), some (.int (mi : Int)), some (.bl (decide (0 < (hold (i + 1) c x).length))), some (optV (given (w.gv p) (hold (i + 1) c x) x)), z8, z9] ∧ Fr r.dom H H' ∧ LNat H' count r (X (i + 1)), rt := Q }
              [some (.ref t.a), some (.ref r.l), some (.int (c : Int)), some (.str cl), some (.str gv), some (.int (mi : Int)), some (.bl true), some (optV (given (w.gv p) (hold i c x) x)), some (.int (i : Int)), some (.ref (t.ra (x.s i)))] H2 := by
          intro H2 M hM f2 ln2
          have tb2 := tb.fr f2 dis
          have hg := given_put (gv := w.gv p) (hs := hold i c x) (k := i) (x := x)
          rw [← hs1] at hg
          have ag := a_in (K := e.K) (ta := tVar 4) (tb := tOp (rIxT e.K) (tVar 9) (tC (.int 3))) (σ := [some (.ref t.a), some (.ref r.l), some (.int (c : Int)), some (.str cl), some (.str gv), some (.int (mi : Int)), some (.bl true), some (optV (given (w.gv p) (hold i c x) x)), some (.int (i : Int)), some (.ref (t.ra (x.s i)))]) (v_var rfl) (v_Rf (v_var rfl) tb2 hn) (tb2.fa _ hn) (hgv (x.s i))
          cases hgo : given (w.gv p) (hold i c x) x with
          | some z =>
            rw [hgo] at hg ag
            refine st_seq (st_no ((ans_and0 (ans_isN (v_var rfl) (decide_eq_false (fun z => nomatch z))))) (st_next ?_))
            exact go3 (some z) H2 M hg.symm hM f2 ln2
          | none =>
            rw [hgo] at hg ag
            refine st_seq (st_if (ans_and (ans_isN (v_var rfl) (decide_eq_true rfl)) ag) (fun hb => ?_) fun hb => st_next ?_)
            · rw [if_pos hb] at hg
              have vc := v_Lck (e := e) (tl := tVar 1) (tk := tVar 8) (σ := [some (.ref t.a), some (.ref r.l), some (.int (c : Int)), some (.str cl), some (.str gv), some (.int (mi : Int)), some (.bl true), some (optV none), some (.int (i : Int)), some (.ref (t.ra (x.s i)))]) (v_var rfl) ln2 (v_var rfl) hi
              refine st_set vc ?_
              have e1 : (V.int (({ X i with m := M } : Col).c i)) = optV (some (x.c i)) := by
                show V.int ((X i).c i) = V.int (x.c i)
                rw [ec]
              rw [e1]
              exact go3 (some (x.c i)) H2 M hg.symm hM f2 ln2
            · rw [if_neg (by rw [hb]; decide)] at hg
              exact go3 none H2 M hg.symm hM f2 ln2
        have hcs : cleaned (w.cl p) (hold (i + 1) c x) x = if w.cl p (x.s i) = true then x.c i else cleaned (w.cl p) (hold i c x) x := by rw [hs1, cleaned_snoc]
        refine st_seq (st_if (a_in (v_var rfl) (v_Rf (v_var rfl) tb1 hn) (tb1.fa _ hn) (hcl (x.s i))) (fun hb => ?_) fun hb => st_next ?_)
        · rw [if_pos hb] at hcs
          refine st_Lm (v_Lck (v_var rfl) ln1 (v_var rfl) hi) (v_var rfl) ln1 fun H2 ln2 f2 => ?_
          exact go2 H2 ((X i).c i) (by rw [hcs, ec]) (f1.trans f2) ln2
        · rw [if_neg (by rw [hb]; decide)] at hcs
          exact go2 H1 (X i).m (by rw [hcs]) f1 ln1
      · have hs1 : hold (i + 1) c x = hold i c x := by
          rw [hold_succ, if_neg, List.append_nil]
          rintro ⟨h1, h2⟩
          rw [decide_eq_true (show (0 : Int) < (x.s i : Nat) by omega), decide_eq_false (show ¬ (i : Int) = (c : Int) by omega)] at hb
          cases hb
        rw [hs1]
        rfl
      · have hs1 : hold (i + 1) c x = hold i c x := by
          rw [hold_succ, if_neg, List.append_nil]
          rintro ⟨h1, h2⟩
          rw [decide_eq_true (show (0 : Int) < (x.s i : Nat) by omega), decide_eq_false (show ¬ (i : Int) = (c : Int) by omega)] at hb
          cases hb
        have e1 : X (i + 1) = X i := by
          show ({ moved (w.mv p) (hold (i + 1) c x) x with m := cleaned (w.cl p) (hold (i + 1) c x) x } : Col) = _
          rw [hs1]
        rw [e1]
        exact ln1
    · rintro σ H1 ⟨z8, z9, rfl, f1, ln1⟩
      dsimp only
      refine st_rt ?_
      have fin : Val (tIf (tTest (tOp rIsN (tVar 7) (tC .non))) (tOp (rIxL e.K) (tVar 1) (tC (.int 2))) (tVar 7)) [some (.ref t.a), some (.ref r.l), some (.int (c : Int)), some (.str cl), some (.str gv), some (.int (mi : Int)), some (.bl (decide (0 < (hold count c x).length))), some (optV (given (w.gv p) (hold count c x) x)), z8, z9] H1
          (.int (fetched (w.gv p) (holders count c x) x (cleaned (w.cl p) (holders count c x) x))) := by
        show Val _ _ _ (.int ((given (w.gv p) (hold count c x) x).getD (cleaned (w.cl p) (hold count c x) x)))
        cases given (w.gv p) (hold count c x) x with
        | none => exact v_if (b := true) (ans_isN (v_var rfl) (decide_eq_true rfl)) (fun _ => v_Lm (v_var rfl) ln1) (fun z => nomatch z)
        | some z => exact v_if (b := false) (ans_isN (v_var rfl) (decide_eq_false (fun z => nomatch z))) (fun z => nomatch z) (fun _ => v_var rfl)
      refine e_tup (arg_cons (v_var rfl) (arg_cons fin arg_nil)) (by show 2 ≤ 1000; decide) fun T hT => ?_
      have hT0 : H T = none := by
        cases hz : H T with
        | none => rfl
        | some o =>
          by_cases hm : T ∈ r.dom
          · unfold LR.dom at hm
            simp only [List.mem_cons, List.not_mem_nil, or_false] at hm
            rcases hm with z | z | z
            · rw [z, ln1.l] at hT
              cases hT
            · rw [z, ln1.s] at hT
              cases hT
            · rw [z, ln1.c] at hT
              cases hT
          · rw [f1 _ _ hz hm] at hT
            cases hT
      exact q T _ hT0 (f1.trans (Fr.of_same (same_new hT))) (ln1.same (same_new hT)) upd_same
  cases w with
  | read => exact key "cleanread" "giveread" 1 (fun i => in_cr) (fun i => in_gr) (fun i => rfl) rfl
  | steal => exact key "cleansteal" "givesteal" 2 (fun i => in_cs) (fun i => in_gs) (fun i => rfl) rfl
end
end Cm
set_option maxHeartbeats 1000000
namespace Cm
open PySem PySem.Spec L2
section
variable {e : En}
theorem LNat.out {H : Hp} {count : Nat} {r : LR} {x : Col} (h : LNat H count r x) {a : Addr} (ha : H a = none) : a ∉ r.dom := fun m => by
  unfold LR.dom at m
  simp only [List.mem_cons, List.not_mem_nil, or_false] at m
  rcases m with z | z | z
  · rw [z, h.l] at ha
    cases ha
  · rw [z, h.s] at ha
    cases ha
  · rw [z, h.c] at ha
    cases ha
/-- a pair's two names -/
theorem g_two {K : PySem.W.Frag} {σ : L2.St} {H : Hp} {a : Addr} {x y : V} {i j : Nat} {Q : L2.St → Hp → Prop} (h : H a = some (.tup [x, y])) (q : Q ((σ.set i (some x)).set j (some y)) H) : gTup K 2 (gCons (gName i) (gCons (gName j) gNil)) (.ref a) σ H Q := ⟨a, [x, y], rfl, SqT.of h, rfl, x, [y], rfl, y, [], rfl, rfl, q⟩
theorem p_law_cache_load (vs : List V) (H : Hp) (Q : VK) (E : XK) (h : sp_law_cache_load e vs H Q E) : t_law_cache_load e { nx := fun _ H' => Q .non H', rt := Q } (start N_law_cache_load vs) H := by
  obtain ⟨count, r, pp, pv, x, ⟨ak, c, w, acov, av⟩, ⟨rfl, ka⟩, tp, ln, ok, lc, hc, q⟩ := h
  obtain rfl : ak = .load := ka
  have lc : c < count := lc
  match pp, tp, ok, q with
  | none, tp, ok, q =>
    obtain rfl : pv = .non := tp
    exact st_seq (st_yes (ans_isN (v_var rfl) (decide_eq_true rfl)) (st_ret (v_Lm (v_var rfl) ln) (q H (Fr.refl _ _) ln)))
  | some (t, p), tp, ok, q =>
    obtain ⟨rfl, tb, pok, dis⟩ := tp
    refine st_seq (st_no (ans_isN (v_var rfl) (decide_eq_false (fun z => nomatch z))) (st_next ?_))
    dsimp only
    by_cases hz : 0 < x.s c
    · have e1 : ldC p count c x = x := if_pos hz
      have q1 : Fr r.dom H H → LNat H count r (ldC p count c x) → Q (.int ((ldC p count c x).c c)) H := q H
      rw [e1] at q1
      exact st_seq (st_no (a_eqI (v_Lsk (v_var rfl) ln (v_var rfl) lc) val_c (decide_eq_false (by omega))) (st_next (st_ret (v_Lck (v_var rfl) ln (v_var rfl) lc) (q1 (Fr.refl _ _) ln))))
    · refine st_seq (st_yes (a_eqI (v_Lsk (v_var rfl) ln (v_var rfl) lc) val_c (decide_eq_true (by omega))) ?_)
      refine st_seq ?_
      refine v_call (arg_cons (v_var rfl) (arg_cons (v_var rfl) (arg_cons (v_var rfl) (arg_cons val_c (arg_cons val_c (arg_cons val_c arg_nil)))))) ?_
      refine ⟨t, p, count, r, x, c, .read, rfl, ⟨rfl, tb, pok, dis⟩, ln, ok, hc, fun T H1 nT f1 ln1 hT => g_two hT ?_⟩
      have tb1 := tb.fr f1 dis
      have hv : Val (tIf (tB (tVar 3)) (tDGet (tVar 0) (tC (.str "shared"))) (tDGet (tVar 0) (tC (.str "lone")))) [some (.ref t.a), some (.ref r.l), some (.int (c : Int)), some (.bl (decide (0 < (holders count c x).length))), some (.int (fetched p.gr (holders count c x) x (cleaned p.cr (holders count c x) x)))] H1
          (.int ((if 0 < (holders count c x).length then p.shared else p.lone : Nat) : Int)) := by
        by_cases hn : 0 < (holders count c x).length
        · rw [if_pos hn, decide_eq_true hn]
          exact v_if (b := true) (a_B (v_var rfl)) (fun _ => v_Tshared (v_var rfl) tb1) (fun z => nomatch z)
        · rw [if_neg hn, decide_eq_false hn]
          exact v_if (b := false) (a_B (v_var rfl)) (fun z => nomatch z) (fun _ => v_Tlone (v_var rfl) tb1)
      refine st_seq (st_Ls hv (v_var rfl) ln1 (v_var rfl) lc fun H2 ln2 f2 => ?_)
      refine st_Lc (v_var rfl) (v_var rfl) ln2 (v_var rfl) lc fun H3 ln3 f3 => ?_
      have e1 : ldC p count c x = ⟨fset (moved p.rd (holders count c x) x).s c (if 0 < (holders count c x).length then p.shared else p.lone),
          fset (moved p.rd (holders count c x) x).c c (fetched p.gr (holders count c x) x (cleaned p.cr (holders count c x) x)), cleaned p.cr (holders count c x) x⟩ := if_neg hz
      have q1 : Fr r.dom H H3 → LNat H3 count r (ldC p count c x) → Q (.int ((ldC p count c x).c c)) H3 := q H3
      have ln4 : LNat H3 count r (ldC p count c x) := by
        rw [e1]
        exact ln3
      exact st_ret (v_Lck (v_var rfl) ln4 (v_var rfl) lc) (q1 ((f1.trans f2).trans f3) ln4)
theorem p_law_cache_store (vs : List V) (H : Hp) (Q : VK) (E : XK) (h : sp_law_cache_store e vs H Q E) : t_law_cache_store e { nx := fun _ H' => Q .non H', rt := Q } (start N_law_cache_store vs) H := by
  obtain ⟨count, r, pp, pv, x, ⟨ak, c, w, cov, av⟩, ⟨rfl, ka, hcov, hv⟩, tp, ln, ok, lc, hc, q⟩ := h
  obtain rfl : ak = .store := ka
  have lc : c < count := lc
  have hcov : cov < 256 := hcov
  have hv : 0 ≤ av ∧ av < 2 ^ 64 := hv
  match pp, tp, ok, q with
  | none, tp, ok, q =>
    obtain rfl : pv = .non := tp
    refine st_seq (st_yes (ans_isN (v_var rfl) (decide_eq_true rfl)) ?_)
    refine st_seq (st_set (v_Lm (v_var rfl) ln) ?_)
    refine st_seq ?_
    refine v_call (arg_cons (v_var rfl) (arg_cons (v_var rfl) (arg_cons (v_var rfl) arg_nil))) ⟨x.m, av, cov, rfl, ok.mb, hv, hcov, ?_⟩
    exact st_Lm (tl := tVar 1) (te := tC (.int (mrg x.m av cov))) val_c (v_var rfl) ln fun H1 ln1 f1 => st_ret (v_var rfl) (q H1 f1 ln1)
  | some (t, p), tp, ok, q =>
    obtain ⟨rfl, tb, pok, dis⟩ := tp
    have ok : x.Ok p.n := ok
    have hn : x.s c ≤ p.n := ok.st c
    refine st_seq (st_no (ans_isN (v_var rfl) (decide_eq_false (fun z => nomatch z))) (st_next ?_))
    dsimp only
    refine st_seq (st_set (v_Lsk (v_var rfl) ln (v_var rfl) lc) ?_)
    dsimp only
    -- once the cache owns the word
    have own := ownedC_ok (count := count) (c := c) pok ok
    have fin : ∀ (H2 : Hp) (z7 z8 : Option V), Fr r.dom H H2 → LNat H2 count r (ownedC p count c x) →
        (tSeq (tAsg (tOp (rIxL e.K) (tOp (rIxL e.K) (tVar 1) (tC (.int 1))) (tVar 2)) (gName 5))
          (tSeq (tAsg (tCall (sp_law_merge e) [] C8.E0 (tCons (tVar 5) (tCons (tVar 4) (tCons (tVar 3) tNil)))) (gSub (tOp (rIxL e.K) (tVar 1) (tC (.int 1))) (tVar 2) rSetL))
          (tSeq (tIfS (tB (tDGet (tVar 0) (tC (.str "through")))) (tAsg (tOp (rIxL e.K) (tOp (rIxL e.K) (tVar 1) (tC (.int 1))) (tVar 2)) (gSub (tVar 1) (tC (.int 2)) rSetL)) tNext)
          (tRet (tVar 5))))) { nx := fun _ H' => Q .non H', rt := Q } [some (.ref t.a), some (.ref r.l), some (.int (c : Int)), some (.int (cov : Int)), some (.int av), none, some (.int (x.s c : Nat)), z7, z8] H2 := by
      intro H2 z7 z8 f2 ln2
      have tb2 := tb.fr f2 dis
      refine st_seq (st_set (v_Lck (v_var rfl) ln2 (v_var rfl) lc) ?_)
      dsimp only
      refine st_seq ?_
      refine v_call (arg_cons (v_var rfl) (arg_cons (v_var rfl) (arg_cons (v_var rfl) arg_nil))) ⟨_, av, cov, rfl, own.1.cb c, hv, hcov, ?_⟩
      refine st_Lc (tl := tVar 1) (tk := tVar 2) (te := tC (.int (mrg ((ownedC p count c x).c c) av cov))) val_c (v_var rfl) ln2 (v_var rfl) lc fun H3 ln3 f3 => ?_
      have tb3 := tb2.fr f3 dis
      have e1 : stepC (some p) count ⟨.store, c, w, cov, av⟩ x = { ownedC p count c x with c := fset (ownedC p count c x).c c (mrg ((ownedC p count c x).c c) av cov), m := if p.thr = true then mrg ((ownedC p count c x).c c) av cov else (ownedC p count c x).m } := rfl
      dsimp only
      refine st_seq (st_if (a_B (v_Tthr (v_var rfl) tb3)) (fun hb => ?_) fun hb => st_next ?_)
      · refine st_Lm (v_Lck (v_var rfl) ln3 (v_var rfl) lc) (v_var rfl) ln3 fun H4 ln4 f4 => st_ret (v_var rfl) (q H4 ((f2.trans f3).trans f4) ?_)
        show LNat H4 count r (stepC (some p) count ⟨.store, c, w, cov, av⟩ x)
        rw [e1, if_pos hb]
        simp only [fset_same] at ln4
        exact ln4
      · refine st_ret (v_var rfl) (q H3 (f2.trans f3) ?_)
        show LNat H3 count r (stepC (some p) count ⟨.store, c, w, cov, av⟩ x)
        rw [e1, if_neg (by rw [hb]; decide)]
        exact ln3
    have vw : ∀ σ' : L2.St, σ'[0]? = some (some (.ref t.a)) → σ'[6]? = some (some (.int (x.s c : Nat))) → Val (tOp (rIxT e.K) (tOp (rIxL e.K) (tDGet (tVar 0) (tC (.str "rows"))) (tVar 6)) (tC (.int 0))) σ' H (.int (p.wr (x.s c) : Nat)) := fun σ' h0 h6 => v_Rw (v_Trow (v_var h0) tb (v_var h6) hn) tb hn
    by_cases hw0 : 0 < p.wr (x.s c)
    · refine st_seq (st_yes (a_gt (vw _ rfl rfl) val_c (decide_eq_true (by omega))) ?_)
      refine st_Ls (vw _ rfl rfl) (v_var rfl) ln (v_var rfl) lc fun H1 ln1 f1 => fin H1 _ _ f1 ?_
      have e1 : ownedC p count c x = { x with s := fset x.s c (p.wr (x.s c)) } := if_pos hw0
      rw [e1]
      exact ln1
    · refine st_seq (st_no (a_gt (vw _ rfl rfl) val_c (decide_eq_false (show ¬ (0 : Int) < (p.wr (x.s c) : Nat) by omega))) ?_)
      refine st_seq ?_
      refine v_call (arg_cons (v_var rfl) (arg_cons (v_var rfl) (arg_cons (v_var rfl) (arg_cons val_c (arg_cons val_c (arg_cons val_c arg_nil)))))) ?_
      refine ⟨t, p, count, r, x, c, .steal, rfl, ⟨rfl, tb, pok, dis⟩, ln, ok, hc, fun T H1 nT f1 ln1 hT => g_two hT ?_⟩
      have tb1 := tb.fr f1 dis
      have e1 : ownedC p count c x = stealC p count c x := if_neg hw0
      refine st_seq (st_if (a_eqI (v_var rfl) val_c rfl) (fun hb => ?_) fun hb => st_next ?_)
      · rw [decide_eq_true_eq] at hb
        refine st_Lc (v_var rfl) (v_var rfl) ln1 (v_var rfl) lc fun H2 ln2 f2 => ?_
        refine st_Ls (v_Town (v_var rfl) (tb1.fr f2 dis)) (v_var rfl) ln2 (v_var rfl) lc fun H3 ln3 f3 => fin H3 _ _ ((f1.trans f2).trans f3) ?_
        rw [e1]
        unfold stealC
        rw [if_pos (show x.s c = 0 by omega)]
        exact ln3
      · rw [decide_eq_false_iff_not] at hb
        refine st_Ls (v_Town (v_var rfl) tb1) (v_var rfl) ln1 (v_var rfl) lc fun H3 ln3 f3 => fin H3 _ _ (f1.trans f3) ?_
        rw [e1]
        unfold stealC
        rw [if_neg (show ¬ x.s c = 0 by omega)]
        exact ln3
theorem p_law_cache_leave (vs : List V) (H : Hp) (Q : VK) (E : XK) (h : sp_law_cache_leave e vs H Q E) : t_law_cache_leave e { nx := fun _ H' => Q .non H', rt := Q } (start N_law_cache_leave vs) H := by
  obtain ⟨count, r, pp, pv, x, ⟨ak, c, w, cov, av⟩, ⟨rfl, ka⟩, tp, ln, ok, lc, hc, q⟩ := h
  obtain rfl : ak = .leave := ka
  have lc : c < count := lc
  -- the two last stores
  have fin : ∀ (H2 : Hp) (M : Int), Fr r.dom H H2 → LNat H2 count r { x with m := M } → stepC (pp.map (·.2)) count ⟨.leave, c, w, cov, av⟩ x = ⟨fset x.s c 0, fset x.c c 0, M⟩ →
      (tSeq (tAsg (tC (.int 0)) (gSub (tOp (rIxL e.K) (tVar 1) (tC (.int 0))) (tVar 2) rSetL)) (tAsg (tC (.int 0)) (gSub (tOp (rIxL e.K) (tVar 1) (tC (.int 1))) (tVar 2) rSetL))) { nx := fun _ H' => Q .non H', rt := Q } [some pv, some (.ref r.l), some (.int (c : Int))] H2 := by
    intro H2 M f2 ln2 e1
    refine st_seq (st_Ls (v := 0) val_c (v_var rfl) ln2 (v_var rfl) lc fun H3 ln3 f3 => ?_)
    refine st_Lc val_c (v_var rfl) ln3 (v_var rfl) lc fun H4 ln4 f4 => ?_
    have q1 := q H4 ((f2.trans f3).trans f4) (by rw [e1]; exact ln4)
    have e2 : stepV (pp.map (·.2)) count ⟨.leave, c, w, cov, av⟩ x = .non := by cases pp <;> rfl
    rw [e2] at q1
    exact q1
  match pp, tp, ok, q, fin with
  | none, tp, ok, q, fin =>
    obtain rfl : pv = .non := tp
    have ok : x.Ok 0 := ok
    have h0 : x.s c = 0 := Nat.le_zero.mp (ok.st c)
    refine st_seq (st_no (ans_and0 (ans_notN (v_var rfl) (by rw [decide_eq_true rfl]; rfl))) (st_next ?_))
    refine fin H x.m (Fr.refl _ _) ln ?_
    show x = _
    have e1 := fset_id (f := x.s) (i := c)
    have e2 := fset_id (f := x.c) (i := c)
    rw [h0] at e1
    rw [ok.z c h0] at e2
    rw [e1, e2]
  | some (t, p), tp, ok, q, fin =>
    obtain ⟨rfl, tb, pok, dis⟩ := tp
    have ok : x.Ok p.n := ok
    have hn : x.s c ≤ p.n := ok.st c
    have e0 : x.s c = 0 → x = ⟨fset x.s c 0, fset x.c c 0, x.m⟩ := fun h0 => by
      have e1 := fset_id (f := x.s) (i := c)
      have e2 := fset_id (f := x.c) (i := c)
      rw [h0] at e1
      rw [ok.z c h0] at e2
      rw [e1, e2]
    have el : stepC (some p) count ⟨.leave, c, w, cov, av⟩ x = lvC p c x := rfl
    refine st_seq (st_if (ans_and (ans_notN (v_var rfl) (by rw [decide_eq_false (fun z => nomatch z)]; rfl)) (a_in val_c (v_Rf (v_Trow (v_var rfl) tb (v_Lsk (v_var rfl) ln (v_var rfl) lc) hn) tb hn) (tb.fa _ hn) in_bk)) (fun hb => ?_) fun hb => st_next ?_)
    · refine st_Lm (v_Lck (v_var rfl) ln (v_var rfl) lc) (v_var rfl) ln fun H1 ln1 f1 => fin H1 (x.c c) f1 ln1 ?_
      show lvC p c x = _
      have hz : 0 < x.s c := Nat.pos_of_ne_zero fun z => by
        rw [z, pok.zero.2.2.2.2.2.2.2] at hb
        cases hb
      unfold lvC
      rw [if_pos hz, if_pos hb]
    · refine fin H x.m (Fr.refl _ _) ln ?_
      show lvC p c x = _
      unfold lvC
      by_cases hz : 0 < x.s c
      · rw [if_pos hz, if_neg (by rw [hb]; decide)]
      · rw [if_neg hz]
        exact e0 (by omega)
theorem p_law_own (vs : List V) (H : Hp) (Q : VK) (E : XK) (h : sp_law_own e vs H Q E) : t_law_own e { nx := fun _ H' => Q .non H', rt := Q } (start N_law_own vs) H := by
  obtain ⟨ta, count, r, pp, pv, x, ⟨ak, c, w, cov, av⟩, ⟨rfl, ht, hcov, hv⟩, tp, ln, ok, lc, hc, q⟩ := h
  have ht : H ta = some (.tup [.str (kdS ak), .int (c : Int), .int (w : Int), .int (cov : Int), .int av]) := ht
  have i0 : ∀ σ : L2.St, σ[2]? = some (some (.ref ta)) → Val (tOp (rIxT e.K) (tVar 2) (tC (.int 0))) σ H (.str (kdS ak)) := fun σ h => v_ixT (z := 0) (v_var h) val_c ht rfl
  have i1 : ∀ σ : L2.St, σ[2]? = some (some (.ref ta)) → Val (tOp (rIxT e.K) (tVar 2) (tC (.int 1))) σ H (.int (c : Int)) := fun σ h => v_ixT (z := 1) (v_var h) val_c ht rfl
  have i3 : ∀ σ : L2.St, σ[2]? = some (some (.ref ta)) → Val (tOp (rIxT e.K) (tVar 2) (tC (.int 3))) σ H (.int (cov : Int)) := fun σ h => v_ixT (z := 3) (v_var h) val_c ht rfl
  have i4 : ∀ σ : L2.St, σ[2]? = some (some (.ref ta)) → Val (tOp (rIxT e.K) (tVar 2) (tC (.int 4))) σ H (.int av) := fun σ h => v_ixT (z := 4) (v_var h) val_c ht rfl
  cases ak with
  | load =>
    refine st_seq (st_yes (a_eqS (i0 _ rfl) val_c (decide_eq_true rfl)) (st_rt ?_))
    exact v_call (arg_cons (v_var rfl) (arg_cons (v_var rfl) (arg_cons (i1 _ rfl) arg_nil))) ⟨count, r, pp, pv, x, ⟨.load, c, w, cov, av⟩, ⟨rfl, rfl⟩, tp, ln, ok, lc, hc, q⟩
  | store =>
    refine st_seq (st_no (a_eqS (i0 _ rfl) val_c (by decide)) (st_next ?_))
    refine st_seq (st_yes (a_eqS (i0 _ rfl) val_c (by decide)) (st_rt ?_))
    exact v_call (arg_cons (v_var rfl) (arg_cons (v_var rfl) (arg_cons (i1 _ rfl) (arg_cons (i3 _ rfl) (arg_cons (i4 _ rfl) arg_nil))))) ⟨count, r, pp, pv, x, ⟨.store, c, w, cov, av⟩, ⟨rfl, rfl, hcov, hv⟩, tp, ln, ok, lc, hc, q⟩
  | leave =>
    refine st_seq (st_no (a_eqS (i0 _ rfl) val_c (by decide)) (st_next ?_))
    refine st_seq (st_no (a_eqS (i0 _ rfl) val_c (by decide)) (st_next ?_))
    dsimp only
    refine st_rt ?_
    exact v_call (arg_cons (v_var rfl) (arg_cons (v_var rfl) (arg_cons (i1 _ rfl) arg_nil))) ⟨count, r, pp, pv, x, ⟨.leave, c, w, cov, av⟩, ⟨rfl, rfl⟩, tp, ln, ok, lc, hc, q⟩
theorem p_law_answer (vs : List V) (H : Hp) (Q : VK) (E : XK) (h : sp_law_answer e vs H Q E) : t_law_answer e { nx := fun _ H' => Q .non H', rt := Q } (start N_law_answer vs) H := by
  obtain ⟨count, words, r, pp, pv, X, ⟨ak, c, w0, cov, av⟩, ta, w, rfl, ht, hcov, hv, cp, lc, lw, hc, q⟩ := h
  have ht : H ta = some (.tup [.str (kdS ak), .int (c : Int), .int (w0 : Int), .int (cov : Int), .int av]) := ht
  have i0 : ∀ σ : L2.St, σ[1]? = some (some (.ref ta)) → Val (tOp (rIxT e.K) (tVar 1) (tC (.int 0))) σ H (.str (kdS ak)) := fun σ h => v_ixT (z := 0) (v_var h) val_c ht rfl
  have i1 : ∀ σ : L2.St, σ[1]? = some (some (.ref ta)) → Val (tOp (rIxT e.K) (tVar 1) (tC (.int 1))) σ H (.int (c : Int)) := fun σ h => v_ixT (z := 1) (v_var h) val_c ht rfl
  have i3 : ∀ σ : L2.St, σ[1]? = some (some (.ref ta)) → Val (tOp (rIxT e.K) (tVar 1) (tC (.int 3))) σ H (.int (cov : Int)) := fun σ h => v_ixT (z := 3) (v_var h) val_c ht rfl
  have i4 : ∀ σ : L2.St, σ[1]? = some (some (.ref ta)) → Val (tOp (rIxT e.K) (tVar 1) (tC (.int 4))) σ H (.int av) := fun σ h => v_ixT (z := 4) (v_var h) val_c ht rfl
  have ca := cp.ca
  have eC : ∀ k w1 w2 v2, stepC (pp.map (·.2)) count ⟨k, c, w1, cov, v2⟩ (X w) = stepC (pp.map (·.2)) count ⟨k, c, w2, cov, v2⟩ (X w) := fun k w1 w2 v2 => by cases pp <;> cases k <;> rfl
  have eV : ∀ k w1 w2 v2, stepV (pp.map (·.2)) count ⟨k, c, w1, cov, v2⟩ (X w) = stepV (pp.map (·.2)) count ⟨k, c, w2, cov, v2⟩ (X w) := fun k w1 w2 v2 => by cases pp <;> cases k <;> rfl
  have q' : ∀ H', CAat e H' count words r pv (setW X w (stepC (pp.map (·.2)) count ⟨ak, c, w, cov, av⟩ (X w))) → Fr (r.dom count) H H' → Q (stepV (pp.map (·.2)) count ⟨ak, c, w, cov, av⟩ (X w)) H' := fun H' h1 h2 => by
    rw [eC ak w w0] at h1
    rw [eV ak w w0]
    exact q H' h1 h2
  cases ak with
  | load =>
    refine st_seq (st_yes (a_eqS (i0 _ rfl) val_c (decide_eq_true rfl)) (st_rt ?_))
    exact v_meth rfl ca rfl (arg_cons (i1 _ rfl) (arg_cons (v_var rfl) arg_nil)) ⟨count, words, r, pp, pv, X, ⟨.load, c, w, cov, av⟩, ⟨rfl, rfl⟩, cp, lc, lw, hc, q'⟩
  | store =>
    refine st_seq (st_no (a_eqS (i0 _ rfl) val_c (by decide)) (st_next ?_))
    refine st_seq (st_yes (a_eqS (i0 _ rfl) val_c (by decide)) (st_rt ?_))
    exact v_meth rfl ca rfl (arg_cons (i1 _ rfl) (arg_cons (v_var rfl) (arg_cons (i3 _ rfl) (arg_cons (i4 _ rfl) arg_nil)))) ⟨count, words, r, pp, pv, X, ⟨.store, c, w, cov, av⟩, ⟨rfl, rfl, hcov, hv⟩, cp, lc, lw, hc, q'⟩
  | leave =>
    refine st_seq (st_no (a_eqS (i0 _ rfl) val_c (by decide)) (st_next ?_))
    refine st_seq (st_no (a_eqS (i0 _ rfl) val_c (by decide)) (st_next ?_))
    dsimp only
    refine st_rt ?_
    exact v_meth rfl ca rfl (arg_cons (i1 _ rfl) (arg_cons (v_var rfl) arg_nil)) ⟨count, words, r, pp, pv, X, ⟨.leave, c, w, cov, av⟩, ⟨rfl, rfl⟩, cp, lc, lw, hc, q'⟩
end
end Cm
set_option maxHeartbeats 1000000
namespace Cm
open PySem PySem.Spec L2
section
variable {K : PySem.W.Frag} {σ : L2.St} {H : Hp} {ta tb te : TE} {t : TA} {a : Addr} {xs : List V}
theorem e_lstx {Q : VK} (h : t σ H fun xs H1 => xs.length ≤ sizeLine ∧ ∀ p, H1 p = none → Q (.ref p) (upd H1 p (.lst xs))) : tLst t σ H Q := h
theorem e_tupx {Q : VK} (h : t σ H fun xs H1 => xs.length ≤ sizeLine ∧ ∀ p, H1 p = none → Q (.ref p) (upd H1 p (.tup xs))) : tTup t σ H Q := h
theorem e_cons {Q : List V → Hp → Prop} (h : ta σ H fun v H1 => t σ H1 fun vs H2 => Q (v :: vs) H2) : tCons ta t σ H Q := h
theorem e_nil {Q : List V → Hp → Prop} (h : Q [] H) : tNil σ H Q := h
theorem e_rep {n : Nat} {Q : VK} (hn : ∀ a, H a = none → Val ta σ (upd H a (.lst [.int 0])) (.int (n : Int))) (hb : n ≤ 1000) (q : ∀ b H2, Same H H2 → H b = none → H2 b = some (.lst (rowI n fun _ => 0)) → Q (.ref b) H2) :
    tOp rRep (tLst (tCons (tC (.int 0)) tNil)) ta σ H Q := by
  refine e_op (e_lst (arg_cons val_c arg_nil) (by show 1 ≤ 1000; decide) fun a ha => hn a ha _ ?_)
  refine ⟨a, (n : Int), [.int 0], rfl, rfl, upd_same, by omega, by omega, ?_, fun b hb => ?_⟩
  · rw [Int.toNat_natCast]
    exact Nat.le_trans (show 1 * n ≤ 1000 by omega) (by decide)
  · rw [Int.toNat_natCast, row_zero]
    have nb : b ≠ a := fun z => by
      rw [z, upd_same] at hb
      cases hb
    have hb0 : H b = none := by
      rw [upd_ne nb] at hb
      exact hb
    exact q _ _ ((same_new ha).trans (same_new hb)) hb0 upd_same
/-- a new line -/
def RL (count : Nat) (x : Nat → Col) (k : Nat) (v : V) (A : Hp) : Prop := ∃ r : LR, v = .ref r.l ∧ LNat A count r (x k)
theorem RL.mono {count : Nat} {x : Nat → Col} (k : Nat) (v : V) (A B : Hp) (s : Same A B) (h : RL count x k v A) : RL count x k v B := let ⟨r, e, q⟩ := h; ⟨r, e, q.same s⟩
theorem RL.uniq {H : Hp} {r r' : LR} {m m' : Int} (h1 : H r.l = some (.lst [.ref r.s, .ref r.c, .int m])) (h2 : H r'.l = some (.lst [.ref r'.s, .ref r'.c, .int m'])) (e : r.l = r'.l) : r = r' := by
  rw [e, h2] at h1
  have h3 := Option.some.inj h1
  injection h3 with h3
  injection h3 with a1 h3
  injection h3 with a2 h3
  injection a1 with a1
  injection a2 with a2
  obtain ⟨l, s, c⟩ := r
  obtain ⟨l', s', c'⟩ := r'
  simp only at e a1 a2
  rw [e, a1, a2]
theorem LNat.there {H : Hp} {count : Nat} {r : LR} {x : Col} (h : LNat H count r x) {b : Addr} (hb : b ∈ r.dom) : ∃ o, H b = some o := by
  unfold LR.dom at hb
  simp only [List.mem_cons, List.not_mem_nil, or_false] at hb
  rcases hb with rfl | rfl | rfl
  · exact ⟨_, h.l⟩
  · exact ⟨_, h.s⟩
  · exact ⟨_, h.c⟩
theorem nd_flat {f : Nat → List Addr} {n : Nat} (h : ∀ k, k < n → (f k).Nodup) (d : ∀ j k, j < k → k < n → ∀ b, b ∈ f j → b ∉ f k) : ((List.range n).flatMap f).Nodup := by
  induction n with
  | zero => exact List.nodup_nil
  | succ n ih =>
    rw [List.range_succ, List.flatMap_append, List.nodup_append]
    refine ⟨ih (fun k hk => h k (by omega)) fun j k hj hk => d j k hj (by omega), by simpa using h n (by omega), ?_⟩
    intro a ha b hb e
    subst e
    obtain ⟨j, hj, haj⟩ := List.mem_flatMap.mp ha
    have hb' : a ∈ f n := by simpa using hb
    exact d j n (List.mem_range.mp hj) (by omega) a haj hb'
theorem lines_of {H H' : Hp} {L : Addr} {n count : Nat} {x : Nat → Col} (nL : H L = none) (hL : H' L = some (.lst xs)) (len : xs.length = n) (hr : ∀ (k : Nat) v, xs[k]? = some v → RL count x k v (mi H' (upd H L (.lst []))))
    (ap : ∀ (j k : Nat) u v, j < k → xs[j]? = some u → xs[k]? = some v → ∃ B : Hp, (∃ o, B L = some o) ∧ (∀ b o, b ≠ L → B b = some o → H' b = some o) ∧ RL count x j u (mi B (upd H L (.lst []))) ∧ RL count x k v (mi H' B)) :
    ∃ lr : Nat → LR, LLat H' count n L lr x ∧ ∀ b, b ∈ LLdom n L lr → H b = none := by
  have h1 : ∀ k, ∃ r : LR, k < n → xs[k]? = some (.ref r.l) ∧ LNat (mi H' (upd H L (.lst []))) count r (x k) := fun k => by
    by_cases hk : k < n
    · have e := List.getElem?_eq_getElem (l := xs) (i := k) (by omega)
      obtain ⟨r, hv, hln⟩ := hr k _ e
      exact ⟨r, fun _ => ⟨by rw [e, hv], hln⟩⟩
    · exact ⟨⟨0, 0, 0⟩, fun z => absurd z hk⟩
  obtain ⟨lr, hlr⟩ := Classical.skolem.mp h1
  have new : ∀ k, k < n → ∀ b, b ∈ (lr k).dom → H b = none ∧ b ≠ L := fun k hk b hb => by
    obtain ⟨o, ho⟩ := (hlr k hk).2.there hb
    have h2 := (mi_some ho).2
    have nb : b ≠ L := fun z => by
      rw [z, upd_same] at h2
      cases h2
    rw [upd_ne nb] at h2
    exact ⟨h2, nb⟩
  refine ⟨lr, ⟨?_, fun w hw => (hlr w hw).2.same mi_le, ?_⟩, ?_⟩
  · rw [hL]
    refine congrArg (fun z => some (HO.lst z)) (List.ext_getElem? fun k => ?_)
    by_cases hk : k < n
    · rw [(hlr k hk).1, row_get (g := V.ref) hk]
    · rw [List.getElem?_eq_none (by omega), List.getElem?_eq_none (by rw [row_len]; omega)]
  · rw [List.nodup_cons]
    refine ⟨fun m => ?_, nd_flat (fun k hk => (hlr k hk).2.nd) fun j k hjk hk b hbj hbk => ?_⟩
    · obtain ⟨k, hk, hb⟩ := List.mem_flatMap.mp m
      exact (new k (List.mem_range.mp hk) L hb).2 rfl
    · obtain ⟨B, _, hBH, ⟨r1, e1, l1⟩, ⟨r2, e2, l2⟩⟩ := ap j k _ _ hjk (hlr j (by omega)).1 (hlr k hk).1
      injection e1 with e1
      injection e2 with e2
      have u2 : lr k = r2 := RL.uniq (H := H') (mi_le _ _ (hlr k hk).2.l) (mi_le _ _ l2.l) e2
      have u1 : lr j = r1 := RL.uniq (H := H') (mi_le _ _ (hlr j (by omega)).2.l) (hBH _ _ (by rw [← e1]; exact (new j (by omega) _ LR.ml).2) (mi_some l1.l).1) e1
      rw [u2] at hbk
      rw [u1] at hbj
      obtain ⟨o, ho⟩ := l2.there hbk
      obtain ⟨o2, ho2⟩ := l1.there hbj
      have ho3 := (mi_some ho2).1
      rw [(mi_some ho).2] at ho3
      cases ho3
  · intro b hb
    rcases List.mem_cons.mp hb with rfl | hb
    · exact nL
    · obtain ⟨k, hk, hb⟩ := List.mem_flatMap.mp hb
      exact (new k (List.mem_range.mp hk) b hb).1
end
section
variable {e : En}
/-- [a row of zeroes or a copy, .. , v]: a new line -/
theorem RL.new {H H1 H2 : Hp} {count k : Nat} {x : Nat → Col} {b1 b2 l : Addr} (s1 : Same H H1) (n1 : H b1 = none) (h1 : H1 b1 = some (.lst (rowN count (x k).s))) (s2 : Same H1 H2) (n2 : H1 b2 = none) (h2 : H2 b2 = some (.lst (rowI count (x k).c))) (nl : H2 l = none) :
    RL count x k (.ref l) (mi (upd H2 l (.lst [.ref b1, .ref b2, .int (x k).m])) H) := by
  have s12 := s1.trans s2
  have h1' := s2 _ _ h1
  have l1 : b1 ≠ l := ne_of_none h1' nl
  have l2 : b2 ≠ l := ne_of_none h2 nl
  refine ⟨⟨l, b1, b2⟩, rfl, mi_of upd_same (s12.free nl), mi_of (by rw [upd_ne l1]; exact h1') n1, mi_of (by rw [upd_ne l2]; exact h2) (s1.free n2), ?_⟩
  unfold LR.dom
  simp only [List.nodup_cons, List.mem_cons, List.not_mem_nil, or_false, not_or, List.nodup_nil, and_true, not_false_eq_true]
  exact ⟨⟨l1.symm, l2.symm⟩, ne_of_none h1 n2⟩
theorem p_law_lines (vs : List V) (H : Hp) (Q : VK) (E : XK) (h : sp_law_lines e vs H Q E) : t_law_lines e { nx := fun _ H' => Q .non H', rt := Q } (start N_law_lines vs) H := by
  obtain ⟨ml, count, words, f, rfl, hm, hc, hw, q⟩ := h
  refine st_rt ?_
  refine v_lcGL (K := e.K) (a := ml) (ys := rowI words f) (RL count fun w => ⟨fun _ => 0, fun _ => 0, f w⟩) RL.mono (v_var rfl) (SqL.of hm) (by rw [row_len]; omega) (fun i y H1 hy s Q' q' => ?_) (fun _ => rfl) fun L xs H' nL s hL len r ap => ?_
  · have hi : i < words := by
      have := (List.getElem?_eq_some_iff.mp hy).1
      rw [row_len] at this
      exact this
    rw [row_get (g := V.int) hi] at hy
    obtain rfl := Option.some.inj hy
    refine e_lstx (e_cons (e_rep (n := count) (fun a ha => v_var rfl) (by omega) fun b1 H2 s2 n2 h2 => ?_))
    refine e_cons (e_rep (n := count) (fun a ha => v_var rfl) (by omega) fun b2 H3 s3 n3 h3 => ?_)
    refine e_cons ⟨_, rfl, ⟨by show 3 ≤ sizeLine; decide, fun l hl => q' _ _ ((s2.trans s3).trans (same_new hl)) ?_⟩⟩
    exact RL.new (x := fun w => ⟨fun _ => 0, fun _ => 0, f w⟩) s2 n2 h2 s3 n3 h3 hl
  · rw [row_len] at len
    obtain ⟨lr, h1, h2⟩ := lines_of nL hL len r ap
    exact q L lr H' s h1 h2
/-- list(line[0]), list(line[1]), line[2] -/
theorem e_line {σ : L2.St} {H : Hp} {tl : TE} {count k : Nat} {r : LR} {x : Nat → Col} {Q : VK} (hl : ∀ H', Same H H' → Val tl σ H' (.ref r.l)) (ln : LNat H count r (x k)) (q : ∀ v H', Same H H' → RL count x k v (mi H' H) → Q v H') :
    tLst (tCons (tCB (rListOf e.K) (tCons (tOp (rIxL e.K) tl (tC (.int 0))) tNil)) (tCons (tCB (rListOf e.K) (tCons (tOp (rIxL e.K) tl (tC (.int 1))) tNil)) (tCons (tOp (rIxL e.K) tl (tC (.int 2))) tNil))) σ H Q := by
  refine e_lstx (e_cons (e_lstL (v_Ls (hl _ fun _ _ z => z) ln) (SqL.of ln.s) fun b1 n1 => ?_))
  have s1 := same_new (o := .lst (rowN count (x k).s)) n1
  refine e_cons (e_lstL (v_Lc (hl _ s1) (ln.same s1)) (SqL.of (ln.same s1).c) fun b2 n2 => ?_)
  have s2 := same_new (o := .lst (rowI count (x k).c)) n2
  refine e_cons (v_Lm (hl _ (s1.trans s2)) (ln.same (s1.trans s2)) _ ⟨by show 3 ≤ sizeLine; decide, fun l hl => q _ _ ((s1.trans s2).trans (same_new hl)) ?_⟩)
  exact RL.new s1 n1 upd_same s2 n2 upd_same hl
theorem p_law_copies (vs : List V) (H : Hp) (Q : VK) (E : XK) (h : sp_law_copies e vs H Q E) : t_law_copies e { nx := fun _ H' => Q .non H', rt := Q } (start N_law_copies vs) H := by
  obtain ⟨a, count, words, lr, X, rfl, ll, hw, q⟩ := h
  refine st_rt ?_
  refine v_lcGL (K := e.K) (a := a) (ys := rowR words fun w => (lr w).l) (RL count X) RL.mono (v_var rfl) (SqL.of ll.hd) (by rw [row_len]; omega) (fun i y H1 hy s Q' q' => ?_) (fun _ => rfl) fun L xs H' nL s hL len r ap => ?_
  · have hi : i < words := by
      have := (List.getElem?_eq_some_iff.mp hy).1
      rw [row_len] at this
      exact this
    rw [row_get (g := V.ref) hi] at hy
    obtain rfl := Option.some.inj hy
    exact e_line (r := lr i) (x := X) (k := i) (fun _ _ => v_var rfl) ((ll.at_ i hi).same s) q'
  · rw [row_len] at len
    obtain ⟨lr', h1, h2⟩ := lines_of nL hL len r ap
    exact q L lr' H' s h1 h2
theorem p_law_told_caches (vs : List V) (H : Hp) (Q : VK) (E : XK) (h : sp_law_told_caches e vs H Q E) : t_law_told_caches e { nx := fun _ H' => Q .non H', rt := Q } (start N_law_told_caches vs) H := by
  obtain ⟨a, count, words, lr, X, rfl, ⟨hd, at_⟩, hc, hw, q⟩ := h
  let g : Nat → PyData := fun k => .tuple ((List.range words).map fun w => .tuple [.int ((X w).s k : Nat), .int ((X w).c k)])
  refine st_seq (st_asg ?_)
  refine v_lcG1 (n := count) (fun k v A => Dp e.K A v (g k)) (fun _ _ _ _ m h => Dp.mono m h) (v_var rfl) (by omega) (fun i H1 hi s1 Q' q' => ?_) (fun _ => rfl) fun L xs H2 nL s2 hL len items _ => ?_
  · refine e_cb1 ?_
    refine v_lcGL (K := e.K) (a := a) (ys := rowR words fun w => (lr w).l) (fun w v A => Dp e.K A v (.tuple [.int ((X w).s i : Nat), .int ((X w).c i)])) (fun _ _ _ _ m h => Dp.mono m h) (v_var rfl) (SqL.of (s1 _ _ hd)) (by rw [row_len]; omega) (fun w y H3 hy s3 Q3 q3 => ?_) (fun _ => rfl) fun C cs H3 nC s3 hC lenC itC _ => ?_
    · have hw3 : w < words := by
        have := (List.getElem?_eq_some_iff.mp hy).1
        rw [row_len] at this
        exact this
      rw [row_get (g := V.ref) hw3] at hy
      obtain rfl := Option.some.inj hy
      have ln := (at_ w hw3).same (s1.trans s3)
      refine e_tup (arg_cons (v_Lsk (v_var rfl) ln (v_var rfl) hi) (arg_cons (v_Lck (v_var rfl) ln (v_var rfl) hi) arg_nil)) (by show 2 ≤ 1000; decide) fun p hp => q3 _ _ (same_new hp) (.tup (SqT.of (mi_of upd_same hp)) (.cons (.int _) (.cons (.int _) .nil)))
    · rw [row_len] at lenC
      refine ⟨C, cs, rfl, Or.inl ⟨SqL.of hC, fun t ht => q' _ _ (s3.trans (same_new ht)) (dp_tup ht s3 lenC fun k v hv => Dp.mono (mi_mono (fun b o q _ => q) fun b n => ?_) (itC k v hv))⟩⟩
      by_cases hb : b = C
      · rw [hb]
        exact nC
      · rw [upd_ne hb] at n
        exact n
  · dsimp only
    refine st_rt (e_tupx (e_cons (e_cb1 ?_)))
    have hd2 := s2 _ _ hd
    refine v_lcL (K := e.K) (a := a) (xs := rowR words fun w => (lr w).l) (keep := fun _ => true) (el := fun v => match v with
      | .ref l => (match H2 l with
        | some (.lst [_, _, m]) => m
        | _ => .non)
      | _ => .non) (v_var rfl) hd2 (by rw [row_len]; omega) (fun _ _ _ _ _ => a_yes) (fun y L' acc hy _ hL' => ?_) (fun _ => rfl) fun M nM => ?_
    · obtain ⟨w, hw3, rfl⟩ := List.mem_map.mp hy
      have hw3 := List.mem_range.mp hw3
      have ln := (at_ w hw3).same s2
      show Val _ _ _ (match H2 (lr w).l with
        | some (.lst [_, _, m]) => m
        | _ => .non)
      rw [ln.l]
      exact v_Lm (v_var rfl) (ln.same (same_new hL'))
    · have em : ((rowR words fun w => (lr w).l).filter fun _ => true).map (fun v => match v with
          | .ref l => (match H2 l with
            | some (.lst [_, _, m]) => m
            | _ => .non)
          | _ => .non) = rowI words fun w => (X w).m := by
        rw [List.filter_eq_self.mpr fun _ _ => rfl]
        unfold rowR rowI row
        rw [List.map_map]
        refine List.map_congr_left fun w hw3 => ?_
        show (match H2 (lr w).l with
          | some (.lst [_, _, m]) => m
          | _ => .non) = _
        rw [((at_ w (List.mem_range.mp hw3)).same s2).l]
      rw [em]
      have sM := same_new (o := .lst (rowI words fun w => (X w).m)) nM
      refine ⟨M, _, rfl, Or.inl ⟨SqL.of upd_same, fun t1 n1 => ?_⟩⟩
      have s3 := same_new (o := .tup (rowI words fun w => (X w).m)) n1
      refine e_cons (e_tupL (v_var rfl) (SqL.of (s3 _ _ (sM _ _ hL))) fun t2 n2 => ?_)
      have s4 := same_new (o := .tup xs) n2
      refine ⟨by show 2 ≤ sizeLine; decide, fun t n3 => ?_⟩
      have s5 := same_new (o := .tup [.ref t1, .ref t2]) n3
      refine q t _ (s2.trans (sM.trans (s3.trans (s4.trans s5)))) (.tup (SqT.of upd_same) (.cons (.tup (SqT.of (s5 _ _ (s4 _ _ upd_same))) Dp.ints) (.cons (.tup (SqT.of (s5 _ _ upd_same)) (DpAll.of (by simp [len]) fun i v d hv hd => ?_)) .nil)))
      rw [List.getElem?_map] at hd
      obtain ⟨j, hj, rfl⟩ := Option.map_eq_some_iff.mp hd
      have ej : j = i := by
        have h2 := (List.getElem?_eq_some_iff.mp hj).2
        rw [List.getElem_range] at h2
        exact h2.symm
      subst ej
      exact Dp.mono (mi_le.trans (sM.trans (s3.trans (s4.trans s5)))) (items _ _ hv)
end
end Cm
set_option maxHeartbeats 1000000
namespace Cm
open PySem PySem.Spec L2
section
variable {e : En}
theorem st_ifx {σ : L2.St} {H : Hp} {c : TT} {t1 t2 : TS} {D : Ends} (h : c σ H fun b H1 => if b = true then t1 D σ H1 else t2 D σ H1) : tIfS c t1 t2 D σ H := h
theorem e_notB {σ : L2.St} {H : Hp} {te : TE} {Q : Bool → Hp → Prop} (h : te σ H fun v H1 => ∃ b, v = .bl b ∧ Q (!b) H1) : tNot (tB te) σ H Q := h
theorem e_callx {σ : L2.St} {H : Hp} {sp : Sp} {t : TA} {Q : VK} (h : t σ H fun vs H1 => sp (vs ++ []) H1 Q C8.E0) : tCall sp [] C8.E0 t σ H Q := h
theorem e_if {σ : L2.St} {H : Hp} {c : TT} {ta tb : TE} {b : Bool} {Q : VK} (h : Ans c σ H b) (q1 : b = true → ta σ H Q) (q2 : b = false → tb σ H Q) : tIf c ta tb σ H Q := h _ (by
  cases b with
  | true => exact iteT (q1 rfl)
  | false => exact iteF (q2 rfl))
theorem TBat.there {H : Hp} {t : TR} {p : Pr} (h : TBat H t p) {b : Addr} (hb : b ∈ t.dom p.n) : ∃ o, H b = some o := by
  unfold TR.dom at hb
  simp only [List.mem_cons, List.mem_append, List.mem_map, List.mem_range] at hb
  rcases hb with rfl | rfl | ⟨k, hk, rfl⟩ | ⟨k, hk, rfl⟩
  · exact ⟨_, h.hd⟩
  · exact ⟨_, h.rows⟩
  · exact ⟨_, h.ra k (by omega)⟩
  · exact ⟨_, h.fa k (by omega)⟩
theorem TPat.to {H H' : Hp} {F G : List Addr} {pp : Option (TR × Pr)} {pv : V} (h : TPat H F pp pv) (s : Same H H') (n : ∀ b, b ∈ G → H b = none) : TPat H' G pp pv := by
  cases pp with
  | none => exact h
  | some q =>
    obtain ⟨h1, h2, h3, _⟩ := h
    refine ⟨h1, h2.frame fun b o _ z => s _ _ z, h3, fun b hb m => ?_⟩
    obtain ⟨o, ho⟩ := h2.there hb
    rw [n b m] at ho
    cases ho
theorem tp_ok {H : Hp} {F : List Addr} {pp : Option (TR × Pr)} {pv : V} (h : TPat H F pp pv) : ∀ q, pp = some q → q.2.Ok := fun q z => by
  subst z
  exact h.2.2.1
def lvStep (pp : Option Pr) (count : Nat) (x : Col) (k : Nat) : Col := stepC pp count ⟨.leave, k, 0, 0, 0⟩ x
theorem lvStep_ok {α : Type} {pp : Option (α × Pr)} {count : Nat} (hp : ∀ q, pp = some q → q.2.Ok) {x : Col} (h : x.Ok (pN pp)) : ∀ l : List Nat, (l.foldl (lvStep (pp.map (·.2)) count) x).Ok (pN pp)
  | [] => h
  | k :: r => lvStep_ok hp (stepC_ok hp h) r
theorem p_law_emptied (vs : List V) (H : Hp) (Q : VK) (E : XK) (h : sp_law_emptied e vs H Q E) : t_law_emptied e { nx := fun _ H' => Q .non H', rt := Q } (start N_law_emptied vs) H := by
  obtain ⟨a, count, words, lr, pp, pv, X, rfl, ⟨hd, at_⟩, tp, ok, hc, hw, q⟩ := h
  have okp := tp_ok tp
  refine st_seq (st_asg (e_lst arg_nil (by show 0 ≤ 1000; decide) fun L hL => ?_))
  dsimp only
  have sL := same_new (o := .lst []) hL
  refine st_seq (st_forL (K := e.K) (a := a) (xs := rowR words fun w => (lr w).l) (v_var rfl) (sL _ _ hd) (fun i σ H' => ∃ z4 z5 z6, σ = [some pv, some (.ref a), some (.int (count : Int)), some (.ref L), z4, z5, z6] ∧ Same H H' ∧ H' L = some (.lst (rowI i fun w => (emC (pp.map (·.2)) count (X w)).m)))
    ⟨_, _, _, rfl, sL, upd_same⟩ (fun i σ H' _ p => ?_) ?_ ?_)
  · obtain ⟨_, _, _, _, s, _⟩ := p
    exact s _ _ hd
  · rintro i y σ H1 hy ⟨z4, z5, z6, rfl, s1, l1⟩
    have hi : i < words := by
      have := (List.getElem?_eq_some_iff.mp hy).1
      rw [row_len] at this
      exact this
    rw [row_get (g := V.ref) hi] at hy
    obtain rfl := Option.some.inj hy
    refine st_seq (st_asg (e_line (r := lr i) (x := X) (k := i) (fun _ _ => v_var rfl) ((at_ i hi).same s1) fun v H2 s2 hv => ?_))
    obtain ⟨r', rfl, ln0⟩ := hv
    have ln2 : LNat H2 count r' (X i) := ln0.same mi_le
    have new' : ∀ b, b ∈ r'.dom → H1 b = none := fun b hb => by
      obtain ⟨o, ho⟩ := ln0.there hb
      exact (mi_some ho).2
    have new : ∀ b, b ∈ r'.dom → H b = none := fun b hb => s1.free (new' b hb)
    have nL : L ∉ r'.dom := fun m => by
      rw [new' L m] at l1
      cases l1
    have fr : ∀ H3, Fr r'.dom H2 H3 → Same H H3 := fun H3 f b o hb => f b o (s2 _ _ (s1 _ _ hb)) fun m => by
      rw [new b m] at hb
      cases hb
    dsimp only
    refine st_seq (st_forR (n := count) (v_var rfl) (by omega) (fun j σ H3 => ∃ z6, σ = [some pv, some (.ref a), some (.int (count : Int)), some (.ref L), some (.ref (lr i).l), some (.ref r'.l), z6] ∧ Fr r'.dom H2 H3 ∧ LNat H3 count r' ((List.range j).foldl (lvStep (pp.map (·.2)) count) (X i)))
      ⟨_, rfl, Fr.refl _ _, ln2⟩ ?_ ?_)
    · rintro j σ H3 hj ⟨z, rfl, f3, ln3⟩
      have okj := lvStep_ok okp (count := count) (ok i) (List.range j)
      have es : (List.range (j + 1)).foldl (lvStep (pp.map (·.2)) count) (X i) = lvStep (pp.map (·.2)) count ((List.range j).foldl (lvStep (pp.map (·.2)) count) (X i)) j := by rw [List.range_succ, List.foldl_append] <;> rfl
      generalize (List.range j).foldl (lvStep (pp.map (·.2)) count) (X i) = x at ln3 okj es
      refine st_if (a_gt (v_Lsk (v_var rfl) ln3 (v_var rfl) hj) val_c rfl) (fun hb => ?_) fun hb => st_next ⟨some (.int (j : Int)), rfl, f3, ?_⟩
      · refine st_do (v_call (arg_cons (v_var rfl) (arg_cons (v_var rfl) (arg_cons (v_var rfl) arg_nil))) ?_)
        refine ⟨count, r', pp, pv, x, ⟨.leave, j, 0, 0, 0⟩, ⟨rfl, rfl⟩, tp.to (fr _ f3) new, ln3, okj, hj, hc, fun H4 f4 ln4 => ⟨_, rfl, f3.trans f4, ?_⟩⟩
        rw [es]
        exact ln4
      · rw [decide_eq_false_iff_not] at hb
        have e1 : lvStep (pp.map (·.2)) count x j = x := by
          cases pp with
          | none => rfl
          | some q =>
            have h0 : ¬ 0 < x.s j := by omega
            exact if_neg h0
        rw [es, e1]
        exact ln3
    · rintro σ H3 ⟨z, rfl, f3, ln3⟩
      have l3 := f3 _ _ (s2 _ _ l1) nL
      refine st_append (v_var rfl) l3 ?_
      refine v_Lm (v_var rfl) ln3 _ ?_
      refine ⟨L, _, _, rfl, rfl, l3, by rw [row_len]; exact Nat.lt_of_lt_of_le (show i < 1000 by omega) (by decide), _, _, _, rfl, fun b o hb => ?_, ?_⟩
      · rw [upd_ne (ne_of_none hb hL)]
        exact fr _ f3 _ _ hb
      · rw [upd_same]
        exact congrArg (fun y => some (HO.lst y)) (row_snoc (g := V.int)).symm
  · rintro σ H1 ⟨z4, z5, z6, rfl, s1, l1⟩
    rw [row_len] at l1
    dsimp only
    refine st_rt (e_tupL (v_var rfl) (SqL.of l1) fun t nt => ?_)
    exact q t _ (s1.trans (same_new nt)) upd_same
theorem canLay_map {n : Nat} {g : Nat → PyData} (h : ∀ k, (g k).canLay0 = true) : PyData.canLayAll0 ((List.range n).map g) = true := by
  generalize List.range n = l
  induction l with
  | nil => rfl
  | cons a r ih =>
    simp only [List.map_cons, PyData.canLayAll0, h a, ih, Bool.and_self]
theorem depth_map {n m : Nat} {g : Nat → PyData} (h : ∀ k, (g k).depth ≤ m) : PyData.depthAll ((List.range n).map g) ≤ m := by
  generalize List.range n = l
  induction l with
  | nil => exact Nat.zero_le _
  | cons a r ih =>
    simp only [List.map_cons, PyData.depthAll]
    exact Nat.max_le.mpr ⟨h a, ih⟩
theorem smd_map {n m : Nat} {g : Nat → PyData} (h : ∀ k, smd m (g k)) : ∀ d, d ∈ (List.range n).map g → smd m d := fun d hd => by
  obtain ⟨k, _, rfl⟩ := List.mem_map.mp hd
  exact h k
theorem smd_told {count words m : Nat} {X : Nat → Col} (hc : count ≤ 100) (hw : words ≤ 100) : smd (m + 5) (toldD count words X) := by
  refine ⟨by show 2 ≤ 1000000; decide, fun d hd => ?_⟩
  simp only [List.mem_cons, List.not_mem_nil, or_false] at hd
  rcases hd with rfl | rfl
  · exact ⟨by simp; omega, smd_map fun k => True.intro⟩
  · refine ⟨by simp; omega, smd_map fun k => ⟨by simp; omega, smd_map fun w => ⟨by show 2 ≤ 1000000; decide, fun d hd => ?_⟩⟩⟩
    simp only [List.mem_cons, List.not_mem_nil, or_false] at hd
    rcases hd with rfl | rfl <;> exact True.intro
theorem shaped_told {count words : Nat} {X : Nat → Col} : SeqAt.shaped (toldD count words X) = true := by
  unfold SeqAt.shaped toldD
  rw [Bool.and_eq_true]
  constructor
  · simp only [PyData.canLay0, PyData.canLayAll0, Bool.and_true, Bool.and_eq_true]
    refine ⟨canLay_map fun k => rfl, canLay_map fun k => ?_⟩
    simp only [PyData.canLay0]
    refine canLay_map fun w => ?_
    simp only [PyData.canLay0, PyData.canLayAll0, Bool.and_self]
  · refine decide_eq_true ?_
    simp only [PyData.depth, PyData.depthAll]
    have h1 : PyData.depthAll ((List.range words).map fun w => PyData.int (X w).m) ≤ 5 := depth_map fun k => by simp [PyData.depth]
    have h2 : PyData.depthAll ((List.range count).map fun k => PyData.tuple ((List.range words).map fun w => PyData.tuple [PyData.int ((X w).s k : Nat), PyData.int ((X w).c k)])) ≤ 6 := depth_map fun k => by
      simp only [PyData.depth]
      have : PyData.depthAll ((List.range words).map fun w => PyData.tuple [PyData.int ((X w).s k : Nat), PyData.int ((X w).c k)]) ≤ 5 := depth_map fun w => by simp [PyData.depth, PyData.depthAll]
      omega
    omega
end
section
variable {e : En} (T : Tx e)
include T
theorem v_methE {H : Hp} {σ : L2.St} {count words : Nat} {r : CR} {pv : V} {X : Nat → Col} {te : TE} {t : TA} {vs : List V} {m : Str} {sp : Sp} {Q : VK} (hp : Val te σ H (.ref r.p)) (h : CAat e H count words r pv X) (hl : (cf pv (.ref r.m) (.ref r.S) (.ref r.C)).lookup m = none) (ha : Arg t σ H vs)
    (q : sp (.ref r.p :: (vs ++ [])) H Q C8.E0) : tMeth e.Caches m sp [] C8.E0 te t σ H Q := hp _ ⟨r.p, r.dx, _, rfl, h.ob, hl, ha _ q⟩
theorem v_told {H : Hp} {σ : L2.St} {count words : Nat} {r : CR} {pv : V} {X : Nat → Col} {te : TE} {Q : VK} (hp : Val te σ H (.ref r.p)) (h : CAat e H count words r pv X) (hc : count ≤ 100) (hw : words ≤ 100)
    (q : ∀ (a : Addr) (H' : Hp), Same H H' → Dp e.K H' (.ref a) (toldD count words X) → Q (.ref a) H') : tMeth e.Caches "told" (sp_Caches_told e) [] C8.E0 te tNil σ H Q := v_methE T hp h rfl arg_nil ⟨count, words, r, pv, X, rfl, h, hc, hw, q⟩
theorem p_law_stands (vs : List V) (H : Hp) (Q : VK) (E : XK) (h : sp_law_stands e vs H Q E) : t_law_stands e { nx := fun _ H' => Q .non H', rt := Q } (start N_law_stands vs) H := by
  obtain ⟨a, count, words, lr, r, pv, X, b, rfl, ca, lg, hc, hw, q⟩ := h
  refine st_seq (st_asg (v_call (arg_cons (v_var rfl) (arg_cons (v_var rfl) arg_nil)) ⟨a, count, words, lr, X, rfl, lg, hc, hw, fun t H1 s1 d1 => ?_⟩))
  dsimp only
  have ca1 := ca.same s1
  obtain ⟨hd, at_⟩ := lg
  refine st_seq (st_ifx (e_notB (e_callx (e_cons (v_M T rfl ca1 _ (e_cons ?_))))))
  refine v_lcL (K := e.K) (a := a) (xs := rowR words fun w => (lr w).l) (keep := fun _ => true) (el := fun v => match v with
      | .ref l => (match H1 l with
        | some (.lst [_, _, m]) => m
        | _ => .non)
      | _ => .non) (v_var rfl) (s1 _ _ hd) (by rw [row_len]; omega) (fun _ _ _ _ _ => a_yes) (fun y L' acc hy _ hL' => ?_) (fun _ => rfl) fun M nM => ?_
  · obtain ⟨w, hw3, rfl⟩ := List.mem_map.mp hy
    have hw3 := List.mem_range.mp hw3
    have ln := (at_ w hw3).same s1
    show Val _ _ _ (match H1 (lr w).l with
      | some (.lst [_, _, m]) => m
      | _ => .non)
    rw [ln.l]
    exact v_Lm (v_var rfl) (ln.same (same_new hL'))
  · have em : ((rowR words fun w => (lr w).l).filter fun _ => true).map (fun v => match v with
        | .ref l => (match H1 l with
          | some (.lst [_, _, m]) => m
          | _ => .non)
        | _ => .non) = rowI words fun w => (X w).m := by
      rw [List.filter_eq_self.mpr fun _ _ => rfl]
      unfold rowR rowI row
      rw [List.map_map]
      refine List.map_congr_left fun w hw3 => ?_
      show (match H1 (lr w).l with
        | some (.lst [_, _, m]) => m
        | _ => .non) = _
      rw [((at_ w (List.mem_range.mp hw3)).same s1).l]
    rw [em]
    have sM := same_new (o := .lst (rowI words fun w => (X w).m)) nM
    have ca2 := ca1.same sM
    refine ⟨_, _, .list ((List.range words).map fun w => .int (X w).m), rfl, .lst (SqL.of ca2.hm) Dp.ints, .lst (SqL.of upd_same) Dp.ints, ⟨by simp; omega, smd_map fun k => True.intro⟩, true, rfl, ?_⟩
    refine iteF ?_
    refine st_next ?_
    dsimp only
    refine st_rt ?_
    have d2 := Dp.mono sM d1
    have s2 := s1.trans sM
    refine e_if (a_B (v_var rfl)) (fun _ => ?_) fun _ => ?_
    · refine e_callx (e_cons (v_told T (v_var rfl) ca2 hc hw fun t2 H3 s3 d3 => ?_))
      exact e_cons (v_var rfl _ (e_nil ⟨_, _, _, rfl, d3, Dp.mono s3 d2, smd_told (m := 5) hc hw, q H3 (s2.trans s3)⟩))
    · refine e_op (v_told T (v_var rfl) ca2 hc hw fun t2 H3 s3 d3 => ?_)
      have hq := v_eqD (K := e.K) (ta := tC (.ref t2)) (tb := tC (.ref t)) (σ := []) val_c val_c d3 (Dp.mono s3 d2) shaped_told _ (q H3 (s2.trans s3))
      exact v_var rfl _ hq
end
end Cm
set_option maxHeartbeats 1000000
namespace Cm
open PySem PySem.Spec L2
section
variable {e : En} (T : Tx e)
include T
omit T in
theorem CPat.same {H H' : Hp} {count words : Nat} {r : CR} {pp : Option (SR × Pr)} {pv : V} {X : Nat → Col} (h : CPat e H count words r pp pv X) (s : Same H H') : CPat e H' count words r pp pv X := ⟨h.ca.same s, h.pr.fr (Fr.of_same s), h.ok⟩
omit T in
theorem smd_mem {words m : Nat} {f : Nat → Int} (hw : words ≤ 100) : smd (m + 2) (.tuple ((List.range words).map fun w => .int (f w))) := ⟨by simp; omega, smd_map fun k => True.intro⟩
theorem v_emptied {H : Hp} {σ : L2.St} {count words : Nat} {r : CR} {pp : Option (SR × Pr)} {pv : V} {X : Nat → Col} {te : TE} {Q : VK} (hp : Val te σ H (.ref r.p)) (h : CPat e H count words r pp pv X) (hc : count ≤ 100) (hw : words ≤ 100)
    (q : ∀ (a : Addr) (H' : Hp), Same H H' → Dp e.K H' (.ref a) (memD words fun w => emC (pp.map (·.2)) count (X w)) → Q (.ref a) H') : tMeth e.Caches "emptied" (sp_Caches_emptied e) [] C8.E0 te tNil σ H Q := v_methE T hp h.ca rfl arg_nil ⟨count, words, r, pp, pv, X, rfl, h, hc, hw, q⟩
theorem p_law_ended (vs : List V) (H : Hp) (Q : VK) (E : XK) (h : sp_law_ended e vs H Q E) : t_law_ended e { nx := fun _ H' => Q .non H', rt := Q } (start N_law_ended vs) H := by
  obtain ⟨count, words, r, pa, la, pr, lr, tt, tv, pp, pv, X, rfl, cp, ps, lg, tp, ht, hc, hw, q⟩ := h
  have hok : ∀ w, (X w).Ok (pN tt) := fun w => by
    have e1 : pN tt = pN pp := by
      cases tt <;> cases pp <;> first | rfl | cases ht | exact congrArg Pr.n (Option.some.inj ht)
    rw [e1]
    exact cp.ok w
  refine st_seq (st_asg (v_call (arg_cons (v_var rfl) (arg_cons (v_var rfl) (arg_cons (v_var rfl) arg_nil))) ⟨la, count, words, lr, tt, tv, X, rfl, lg, tp, hok, hc, hw, fun t H1 s1 h1 => ?_⟩))
  rw [ht] at h1
  dsimp only
  have hlen : Val (tCB (rLenSeq e.K) (tCons (tVar 3) tNil)) [some tv, some (.ref r.p), some (.ref pa), some (.ref la), some (.int (count : Int)), some (.ref t), none] H1 (.int (words : Int)) := by
    have := v_lenL (K := e.K) (ta := tVar 3) (σ := [some tv, some (.ref r.p), some (.ref pa), some (.ref la), some (.int (count : Int)), some (.ref t), none]) (v_var rfl) (s1 _ _ lg.1)
    rw [row_len] at this
    exact this
  refine st_seq (st_forR (n := words) hlen (by omega) (fun i σ H2 => ∃ z, σ = [some tv, some (.ref r.p), some (.ref pa), some (.ref la), some (.int (count : Int)), some (.ref t), z] ∧ Same H1 H2) ⟨_, rfl, fun _ _ z => z⟩ ?_ ?_)
  · rintro w σ H2 hw2 ⟨z, rfl, s2⟩
    have s02 := s1.trans s2
    have vp : ∀ (H3 : Hp), Same H H3 → Val (tOp (rIxL e.K) (tVar 2) (tVar 6)) [some tv, some (.ref r.p), some (.ref pa), some (.ref la), some (.int (count : Int)), some (.ref t), some (.int (w : Int))] H3 (.ref (pr w).p) := fun H3 s => v_ixL (v_var rfl) (v_var rfl) (s _ _ ps.hd) (row_get (g := V.ref) hw2)
    have vd : ∀ (H3 : Hp), Same H1 H3 → Val (tOp (rIxT e.K) (tVar 5) (tVar 6)) [some tv, some (.ref r.p), some (.ref pa), some (.ref la), some (.int (count : Int)), some (.ref t), some (.int (w : Int))] H3 (.int (emC (pp.map (·.2)) count (X w)).m) := fun H3 s => v_ixT (v_var rfl) (v_var rfl) (s _ _ h1) (row_get (g := V.int) hw2)
    have vl : ∀ (H3 : Hp), Same H H3 → Val (tOp (rIxL e.K) (tVar 3) (tVar 6)) [some tv, some (.ref r.p), some (.ref pa), some (.ref la), some (.int (count : Int)), some (.ref t), some (.int (w : Int))] H3 (.ref (lr w).l) := fun H3 s => v_ixL (v_var rfl) (v_var rfl) (s _ _ lg.1) (row_get (g := V.ref) hw2)
    refine st_ifx ?_
    show tNot (tB _) _ H2 _
    refine e_notB (e_callx (e_cons ?_))
    refine v_emptied T (vp H2 s02) ((ps.at_ w hw2).same s02) hc (by omega) fun a H3 s3 d3 => ?_
    refine e_cons (e_tup (arg_cons (vd H3 (s2.trans s3)) arg_nil) (by show 1 ≤ 1000; decide) fun p hp => ?_)
    have s4 := same_new (o := .tup [.int (emC (pp.map (·.2)) count (X w)).m]) hp
    refine e_nil ⟨_, _, _, rfl, Dp.mono s4 d3, .tup (SqT.of upd_same) (.cons (.int _) .nil), smd_mem (m := 8) (by omega), true, rfl, ?_⟩
    refine iteF ?_
    refine e_notB (e_callx (e_cons ?_))
    have s04 := s02.trans (s3.trans s4)
    refine vp _ s04 _ (e_cons (e_lst (arg_cons (vl _ s04) arg_nil) (by show 1 ≤ 1000; decide) fun l hl => ?_))
    have s5 := same_new (o := .lst [.ref (lr w).l]) hl
    refine e_cons (v_var rfl _ (e_cons (val_c _ (e_nil ?_))))
    refine ⟨l, count, 1, fun _ => lr w, pr w, pv, fun _ => X w, true, rfl, ((ps.at_ w hw2).same (s04.trans s5)).ca, ⟨upd_same, fun _ _ => (lg.2 w hw2).same (s04.trans s5)⟩, hc, by omega, fun H6 s6 => ⟨true, rfl, ?_⟩⟩
    exact iteF ⟨_, rfl, s2.trans (s3.trans (s4.trans (s5.trans s6)))⟩
  · rintro σ H2 ⟨z, rfl, s2⟩
    dsimp only
    have dD : ∀ H3, Same H1 H3 → Dp e.K H3 (.ref t) (memD words fun w => emC (pp.map (·.2)) count (X w)) := fun H3 s => .tup (SqT.of (s _ _ h1)) Dp.ints
    refine st_rt ?_
    show tCall _ _ _ _ _ _ _
    refine e_callx (e_cons (v_emptied T (v_var rfl) (cp.same (s1.trans s2)) hc hw fun a H3 s3 d3 => e_cons (v_var rfl _ (e_nil ?_))))
    refine ⟨_, _, _, rfl, d3, dD _ (s2.trans s3), smd_mem (m := 8) hw, true, rfl, iteT ?_⟩
    refine e_callx (e_cons (v_emptied T (v_var rfl) (cp.same (s1.trans (s2.trans s3))) hc hw fun a H4 s4 d4 => e_cons (v_var rfl _ (e_nil ?_))))
    refine ⟨_, _, _, rfl, d4, dD _ (s2.trans (s3.trans s4)), smd_mem (m := 8) hw, true, rfl, iteT ?_⟩
    have s04 := s1.trans (s2.trans (s3.trans s4))
    refine v_call (arg_cons (v_var rfl) (arg_cons (v_var rfl) (arg_cons (v_var rfl) (arg_cons val_c arg_nil)))) ⟨la, count, words, lr, r, pv, X, true, rfl, cp.ca.same s04, ⟨s04 _ _ lg.1, fun w hw2 => (lg.2 w hw2).same s04⟩, hc, hw, fun H5 s5 => q H5 (s04.trans s5)⟩
end
end Cm
set_option maxHeartbeats 1000000
/-! Reading a text. -/
namespace Cm
open PySem PySem.Spec L2
section
variable {K : PySem.W.Frag} {σ : L2.St} {H : Hp} {ta tb te : TE} {a : Addr} {xs : List V} {D : Ends} {ts : TS} {g : TG}
theorem for_enumK {k0 : Int} (Pv : Nat → L2.St → Hp → Prop) (h0 : Pv 0 σ H) (hl : ∀ i σ H, i ≤ xs.length → Pv i σ H → SqL K H a xs)
    (hs : ∀ i x σ H T, xs[i]? = some x → Pv i σ H → H T = none → g (.ref T) σ (upd H T (.tup [.int (k0 + (i : Nat)), x])) fun σ2 H2 => ts { D with nx := Pv (i + 1), ct := Pv (i + 1), bk := D.nx } σ2 H2) (hd : ∀ σ H, Pv xs.length σ H → D.nx σ H) :
    ∃ W : Nat → Nat → L2.St → Hp → Prop, (∃ m, W 0 m σ H) ∧ ∀ i m σ H, W i m σ H →
      ((Itek K a k0).stop i H ∧ D.nx σ H) ∨ ((Itek K a k0).go i H ∧ ∃ N : L2.St → Hp → Prop, (∀ σ' H', N σ' H' → ∃ m', m' < m ∧ W (i + 1) m' σ' H') ∧ ∀ x H', (Itek K a k0).yld i H x H' → g x σ H' fun σ2 H2 => ts { D with nx := N, ct := N, bk := D.nx } σ2 H2) := by
  refine ⟨fun i m σ H => m = xs.length - i ∧ i ≤ xs.length ∧ Pv i σ H, ⟨xs.length, by simp, Nat.zero_le _, h0⟩, ?_⟩
  rintro i m σ H ⟨rfl, hi, p⟩
  have q := hl i σ H hi p
  by_cases hlt : i < xs.length
  · refine .inr ⟨⟨xs, xs[i], q, by simp [hlt]⟩, Pv (i + 1), fun σ' H' p' => ⟨xs.length - (i + 1), by omega, rfl, hlt, p'⟩, fun x H' y => ?_⟩
    obtain ⟨T, x', rfl, hT, rfl, y⟩ := y
    exact hs i x' σ H T (y xs q) p hT
  · have e : i = xs.length := by omega
    subst e
    exact .inl ⟨⟨xs, q, rfl⟩, hd σ H p⟩
theorem for_strS {x : Str} {j : Nat} (Pv : Nat → L2.St → Hp → Prop) (h0 : Pv 0 σ H) (hs : ∀ i c σ H, x.cps.toList[i]? = some c → Pv i σ H → ts { D with nx := Pv (i + 1), ct := Pv (i + 1), bk := D.nx } (σ.set j (some (.str ⟨#[c]⟩))) H) (hd : ∀ σ H, Pv x.cps.toList.length σ H → D.nx σ H) :
    ∃ W : Nat → Nat → L2.St → Hp → Prop, (∃ m, W 0 m σ H) ∧ ∀ i m σ H, W i m σ H →
      ((Its x).stop i H ∧ D.nx σ H) ∨ ((Its x).go i H ∧ ∃ N : L2.St → Hp → Prop, (∀ σ' H', N σ' H' → ∃ m', m' < m ∧ W (i + 1) m' σ' H') ∧ ∀ z H', (Its x).yld i H z H' → gName j z σ H' fun σ2 H2 => ts { D with nx := N, ct := N, bk := D.nx } σ2 H2) := by
  have el : x.cps.toList.length = x.cps.size := by simp
  refine ⟨fun i m σ H => m = x.cps.size - i ∧ i ≤ x.cps.size ∧ Pv i σ H, ⟨x.cps.size, by simp, Nat.zero_le _, h0⟩, ?_⟩
  rintro i m σ H ⟨rfl, hi, p⟩
  by_cases hlt : i < x.cps.size
  · refine .inr ⟨hlt, Pv (i + 1), fun σ' H' p' => ⟨x.cps.size - (i + 1), by omega, rfl, hlt, p'⟩, fun z H' y => ?_⟩
    obtain ⟨rfl, c, hc, rfl⟩ := y
    exact hs i c σ H' (by simpa using hc) p
  · have e : i = x.cps.size := by omega
    subst e
    exact .inl ⟨Nat.le_refl _, hd σ H (by rw [el]; exact p)⟩
theorem st_forx {wi : TI} (h : wi σ H fun J H1 => ∃ W : Nat → Nat → L2.St → Hp → Prop, (∃ m, W 0 m σ H1) ∧ ∀ i m σ H, W i m σ H →
  (J.stop i H ∧ D.nx σ H) ∨ (J.go i H ∧ ∃ N : L2.St → Hp → Prop, (∀ σ' H', N σ' H' → ∃ m', m' < m ∧ W (i + 1) m' σ' H') ∧ ∀ x H', J.yld i H x H' → g x σ H' fun σ2 H2 => ts { D with nx := N, ct := N, bk := D.nx } σ2 H2)) : tFor wi g ts D σ H := h
theorem i_enumK {t : TA} {R : It → Hp → Prop} (h : t σ H fun vs H1 => tb σ H1 fun y H2 => ∃ a xs k, vs = [.ref a] ∧ [y] = [V.int k] ∧ SqL K H2 a xs ∧ 0 ≤ k ∧ k < 1000000 ∧ R (Itek K a k) H2) : iEnumK K t tb σ H R := h
/-- a comprehension over a list that an expression makes -/
theorem lc_over {tt : TT} {vs : List Nat} {Q : VK} (h : ta σ H fun x H1 => tLc (iList K (tC x)) g tt te vs σ H1 Q) : tLc (iList K ta) g tt te vs σ H Q := h
theorem st_forOver (h : ta σ H fun x H1 => tFor (iList K (tC x)) g ts D σ H1) : tFor (iList K ta) g ts D σ H := h
theorem e_test {r : R2} {Q : Bool → Hp → Prop} (h : ta σ H fun x H1 => tb σ H1 fun y H2 => r x y H2 fun z H3 => ∃ b, z = .bl b ∧ Q b H3) : tTest (tOp r ta tb) σ H Q := h
theorem v_lenStr {x : Str} (h : Val ta σ H (.str x)) (hl : x.length ≤ 100000) : Val (tCB rLenStr (tCons ta tNil)) σ H (.int (x.length : Int)) := fun Q q => h _ ⟨x, rfl, Nat.le_trans hl (by decide), q⟩
theorem v_ixS {x : Str} {i c : Nat} (ha : Val ta σ H (.str x)) (hb : Val tb σ H (.int (i : Int))) (hl : x.length ≤ 100000) (hc : x.cps.toList[i]? = some c) : Val (tOp rIxS ta tb) σ H (.str ⟨#[c]⟩) := val_op ha hb fun Q q => ⟨x, (i : Int), c, rfl, rfl, Nat.le_trans hl (by decide), atI_nat hc, q⟩
theorem v_addS {x y : Str} (ha : Val ta σ H (.str x)) (hb : Val tb σ H (.str y)) (hl : x.length + y.length ≤ 100000) : Val (tOp rAddStr ta tb) σ H (.str (x ++ y)) := val_op ha hb fun Q q => ⟨x, y, rfl, rfl, Nat.le_trans hl (by decide), q⟩
theorem e_split {x y : Str} {Q : VK} (ha : Val ta σ H (.str x)) (hb : Val tb σ H (.str y)) (hy : (y.length == 0) = false) (hl : x.length ≤ 100000) (q : ∀ p, H p = none → Q (.ref p) (upd H p (.lst ((Txt.split x y).map V.str)))) : tSplit ta tb σ H Q :=
  ha _ ⟨⟨x, rfl⟩, hb _ ⟨x, y, rfl, rfl, hy, Nat.le_trans (Nat.add_le_add_right hl 2) (by decide), q⟩⟩
end
/-! ### lengths and cuts -/
theorem join_len (y : Str) : ∀ parts : List Str, (Txt.join y parts).length ≤ (parts.map (·.length)).sum + parts.length * y.length := fun parts => by
  rw [TL.len_tl, TL.join_eq, TL.tl_join]
  have h : ∀ l : List (List Nat), (TL.joinL (TL.tl y) l).length ≤ (l.map (·.length)).sum + l.length * y.length := by
    intro l
    induction l with
    | nil => exact Nat.zero_le _
    | cons p r ih =>
      cases r with
      | nil =>
        show p.length ≤ _
        simp
      | cons q r =>
        show (p ++ (TL.tl y ++ TL.joinL (TL.tl y) (q :: r))).length ≤ _
        rw [List.length_append, List.length_append, List.map_cons, List.sum_cons, List.length_cons, Nat.succ_mul, ← TL.len_tl]
        omega
  have h2 := h (parts.map TL.tl)
  rw [List.length_map, List.map_map] at h2
  have e : parts.map ((fun x => x.length) ∘ TL.tl) = parts.map (·.length) := List.map_congr_left fun z _ => (TL.len_tl z).symm
  rw [e] at h2
  exact h2
theorem sum_le {l : List Nat} {b : Nat} (h : ∀ x, x ∈ l → x ≤ b) : l.sum ≤ l.length * b := by
  induction l with
  | nil => exact Nat.zero_le _
  | cons a r ih =>
    have h1 := h a (List.mem_cons_self ..)
    have h2 := ih fun x hx => h x (List.mem_cons_of_mem _ hx)
    rw [List.sum_cons, List.length_cons, Nat.succ_mul]
    omega
theorem cut_lines {ls : List (List Str)} (h : LinesOk ls) : Txt.split (Txt.join "\n" (ls.map (Txt.join " "))) "\n" = ls.map (Txt.join " ") := by
  refine TL.split_join (s := 10) (S := []) rfl (by decide +kernel) (fun z => h.1 (List.map_eq_nil_iff.mp z)) fun p hp m => ?_
  obtain ⟨l, hl, rfl⟩ := List.mem_map.mp hp
  rw [TL.join_eq, TL.tl_join] at m
  have hw := (h.2.2 l hl).2.2.1
  have key : ∀ l : List Str, (∀ x, x ∈ l → WordOk x) → 10 ∉ TL.joinL (TL.tl " ") (l.map TL.tl) := by
    intro l
    induction l with
    | nil => intro _ m; cases m
    | cons x r ih =>
      intro hw m
      have hx : 10 ∉ TL.tl x := fun m => by
        have := (hw x (List.mem_cons_self ..)).2.1 10 m
        omega
      cases r with
      | nil => exact hx m
      | cons y r =>
        rcases List.mem_append.mp m with m | m
        · exact hx m
        · rcases List.mem_append.mp m with m | m
          · revert m
            decide
          · exact ih (fun z hz => hw z (List.mem_cons_of_mem _ hz)) m
  exact key l hw m
theorem cut_words {l : List Str} (hne : l ≠ []) (hw : ∀ x, x ∈ l → WordOk x) : Txt.split (Txt.join " " l) " " = l := by
  refine TL.split_join (s := 32) (S := []) rfl (by decide +kernel) hne fun p hp m => ?_
  have := (hw p hp).2.1 32 m
  omega
theorem word_ne {x : Str} (h : WordOk x) : x ≠ "" := fun z => h.1 (by rw [z]; rfl)
theorem dp_strs {K : PySem.W.Frag} {H : Hp} : ∀ l : List Str, DpAll K H (l.map V.str) (l.map PyData.str)
  | [] => .nil
  | _ :: r => .cons (.str _) (dp_strs r)
theorem word_str {x : Str} (h : WordOk x) : PyData.strOk x = true := by
  show x.cps.all _ = true
  rw [← Array.all_toList]
  exact List.all_eq_true.mpr fun c hc => decide_eq_true (by
    have := h.2.1 c hc
    omega)
theorem shaped_strs (l : List Str) (hw : ∀ x, x ∈ l → WordOk x) : SeqAt.shaped (.list (l.map PyData.str)) = true := by
  unfold SeqAt.shaped
  rw [Bool.and_eq_true]
  constructor
  · simp only [PyData.canLay0]
    induction l with
    | nil => rfl
    | cons a r ih =>
      simp only [List.map_cons, PyData.canLayAll0, PyData.canLay0, ih fun x hx => hw x (List.mem_cons_of_mem _ hx), word_str (hw a (List.mem_cons_self ..)), Bool.and_self]
  · refine decide_eq_true ?_
    simp only [PyData.depth]
    have : PyData.depthAll (l.map PyData.str) ≤ 5 := by
      induction l with
      | nil => exact Nat.zero_le _
      | cons a r ih =>
        simp only [List.map_cons, PyData.depthAll]
        exact Nat.max_le.mpr ⟨by simp [PyData.depth], ih fun x hx => hw x (List.mem_cons_of_mem _ hx)⟩
    omega
section
variable {e : En}
theorem p_split_text (vs : List V) (H : Hp) (Q : VK) (E : XK) (h : sp_split_text e vs H Q E) : t_split_text e { nx := fun _ H' => Q .non H', rt := Q } (start N_split_text vs) H := by
  obtain ⟨ls, rfl, ok, q⟩ := h
  have llen : ∀ i l, ls[i]? = some l → l ≠ [] ∧ l.length ≤ 10 ∧ (∀ x, x ∈ l → WordOk x) ∧ (Txt.join " " l).length ≤ 120 := fun i l h => ok.2.2 l (List.mem_of_getElem? h)
  have tlen : (Txt.join "\n" (ls.map (Txt.join " "))).length ≤ 100000 := by
    refine Nat.le_trans (join_len _ _) ?_
    rw [List.map_map, List.length_map]
    have h1 := sum_le (l := ls.map ((fun x => x.length) ∘ Txt.join " ")) (b := 120) fun x hx => by
      obtain ⟨l, hl, rfl⟩ := List.mem_map.mp hx
      exact (ok.2.2 l hl).2.2.2
    rw [List.length_map] at h1
    have h2 := ok.2.1
    have e1 : ("\n" : Str).length = 1 := rfl
    rw [e1]
    omega
  generalize hx : Txt.join "\n" (ls.map (Txt.join " ")) = text at tlen
  refine st_seq (st_asg (e_lst arg_nil (by show 0 ≤ 1000; decide) fun F hF => ?_))
  have sF := same_new (o := .lst []) hF
  dsimp only
  refine st_seq ?_
  refine st_forx (i_enumK (e_cons ?_))
  refine e_split (x := text) (y := "\n") (v_var rfl) val_c rfl tlen fun p hp => ?_
  have hF1 : upd H F (.lst []) F = some (.lst []) := upd_same
  have nFp := ne_of_none hF1 hp
  have cut : Txt.split text "\n" = ls.map (Txt.join " ") := by
    rw [← hx]
    exact cut_lines ok
  rw [cut]
  have s1 := sF.trans (same_new (o := .lst ((ls.map (Txt.join " ")).map V.str)) hp)
  have pl : upd (upd H F (.lst [])) p (.lst ((ls.map (Txt.join " ")).map V.str)) p = some (.lst ((ls.map (Txt.join " ")).map V.str)) := upd_same
  have F1 : upd (upd H F (.lst [])) p (.lst ((ls.map (Txt.join " ")).map V.str)) F = some (.lst []) := by
    rw [upd_ne nFp]
    exact upd_same
  generalize upd (upd H F (.lst [])) p (.lst ((ls.map (Txt.join " ")).map V.str)) = H1 at s1 pl F1
  refine e_nil ⟨p, (ls.map (Txt.join " ")).map V.str, 1, rfl, rfl, SqL.of pl, by omega, by omega, ?_⟩
  refine for_enumK (xs := (ls.map (Txt.join " ")).map V.str) (fun i σ H2 => ∃ z2 z3 z4 z5, σ = [some (.str text), some (.ref F), z2, z3, z4, z5] ∧ Same H H2 ∧ H2 p = some (.lst ((ls.map (Txt.join " ")).map V.str)) ∧ ∃ ta wa : Nat → Addr, H2 F = some (.lst (rowR i ta)) ∧
      ∀ j, j < i → H2 (ta j) = some (.tup [.int ((j + 1 : Nat) : Int), .ref (wa j)]) ∧ (∀ l, ls[j]? = some l → H2 (wa j) = some (.lst (l.map V.str))) ∧ ta j ≠ F ∧ wa j ≠ F) ⟨_, _, _, _, rfl, s1, pl, fun _ => 0, fun _ => 0, F1, fun j hj => absurd hj (Nat.not_lt_zero _)⟩ ?_ ?_ ?_
  · rintro i σ H2 _ ⟨z2, z3, z4, z5, rfl, s2, p2, ta, wa, f2, items⟩
    exact SqL.of p2
  · rintro i v σ H2 T hv ⟨z2, z3, z4, z5, rfl, s2, p2, ta, wa, f2, items⟩ hT
    rw [List.getElem?_map, List.getElem?_map] at hv
    obtain ⟨sl, hsl, rfl⟩ := Option.map_eq_some_iff.mp hv
    obtain ⟨l, hl, rfl⟩ := Option.map_eq_some_iff.mp hsl
    obtain ⟨l1, l2, l3, l4⟩ := llen i l hl
    have hi : i < ls.length := (List.getElem?_eq_some_iff.mp hl).1
    have h20 := ok.2.1
    refine g_two upd_same ?_
    have sT := same_new (o := .tup [.int (1 + (i : Nat)), .str (Txt.join " " l)]) hT
    have fT : upd H2 T (.tup [.int (1 + (i : Nat)), .str (Txt.join " " l)]) F = some (.lst (rowR i ta)) := sT _ _ f2
    refine st_seq (st_no (ans_or (a_gt (v_var rfl) val_c (decide_eq_false (by omega))) (a_gt (v_lenStr (v_var rfl) (by omega)) val_c (decide_eq_false (by omega)))) (st_next ?_))
    dsimp only
    refine st_seq (st_asg ?_)
    refine lc_over ?_
    refine e_split (y := " ") (v_var rfl) val_c rfl (by omega) fun wl hwl => ?_
    rw [cut_words l1 l3]
    have sW := same_new (o := .lst (l.map V.str)) hwl
    generalize upd H2 T (.tup [.int (1 + (i : Nat)), .str (Txt.join " " l)]) = H3 at *
    have w4 : upd H3 wl (.lst (l.map V.str)) wl = some (.lst (l.map V.str)) := upd_same
    generalize upd H3 wl (.lst (l.map V.str)) = H4 at *
    have lc := @v_lcL e.K [some (.str text), some (.ref F), some (.int (1 + (i : Nat))), some (.str (Txt.join " " l)), z4, z5] H4 (tC (.ref wl)) (tVar 5) (tTest (tOp rNe (tVar 5) (tC (.str "")))) wl (l.map V.str) 5 [5] (fun _ => true) id val_c w4 (by rw [List.length_map]; omega) (fun y L acc hy _ => by
        obtain ⟨x, hx, rfl⟩ := List.mem_map.mp hy
        exact a_neS (v_var rfl) val_c (by rw [decide_eq_false (word_ne (l3 x hx))]; rfl)) (fun y L acc hy _ _ => v_var rfl) (fun _ => rfl)
    refine lc fun W hW => ?_
    have eW : ((l.map V.str).filter fun _ => true).map id = l.map V.str := by
      rw [List.filter_eq_self.mpr fun _ _ => rfl, List.map_id]
    rw [eW]
    have sV := same_new (o := .lst (l.map V.str)) hW
    have w5 : upd H4 W (.lst (l.map V.str)) W = some (.lst (l.map V.str)) := upd_same
    generalize upd H4 W (.lst (l.map V.str)) = H5 at *
    have s5 := sT.trans (sW.trans sV)
    dsimp only
    refine st_ifx (e_test ?_)
    refine v_var rfl _ ?_
    refine e_lst arg_nil (by show 0 ≤ 1000; decide) fun N hN => ?_
    have sN := same_new (o := .lst []) hN
    refine ⟨.list (l.map PyData.str), .list [], .lst (SqL.of (sN _ _ w5)) (dp_strs l), .lst (SqL.of upd_same) .nil, shaped_strs l l3, by decide, true, ?_, ?_⟩
    · cases l with
      | nil => exact absurd rfl l1
      | cons x r => rfl
    · refine iteT ?_
      have F6 := sN _ _ (s5 _ _ f2)
      have w6 := sN _ _ w5
      generalize upd H5 N (.lst []) = H6 at *
      refine st_append (v_var rfl) F6 ?_
      refine e_tup (arg_cons (v_var rfl) (arg_cons (v_var rfl) arg_nil)) (by show 2 ≤ 1000; decide) fun t ht => ?_
      have st := same_new (o := .tup [.int (1 + (i : Nat)), .ref W]) ht
      have t7 : upd H6 t (.tup [.int (1 + (i : Nat)), .ref W]) t = some (.tup [.int (1 + (i : Nat)), .ref W]) := upd_same
      have s7 := s5.trans (sN.trans st)
      have w7 := st _ _ w6
      have F7 := st _ _ F6
      have ntF : t ≠ F := (ne_of_none F6 ht).symm
      have nWF : W ≠ F := fun z => by
        have := sW _ _ (fT)
        rw [z, this] at hW
        cases hW
      generalize upd H6 t (.tup [.int (1 + (i : Nat)), .ref W]) = H7 at *
      refine ⟨F, _, _, rfl, rfl, F7, by rw [row_len]; exact Nat.lt_of_lt_of_le (show i < 1000 by omega) (by decide), _, _, _, _, rfl, fun b o hb => ?_, ?_, fset ta i t, fset wa i W, ?_, fun j hj => ?_⟩
      · rw [upd_ne (ne_of_none hb hF)]
        exact s7 _ _ (s2 _ _ hb)
      · rw [upd_ne nFp.symm]
        exact s7 _ _ p2
      · rw [upd_same]
        exact congrArg (fun y => some (HO.lst y)) (row_put (g := V.ref)).symm
      · by_cases hji : j = i
        · subst hji
          rw [fset_same, fset_same]
          refine ⟨?_, fun l' hl' => ?_, ntF, nWF⟩
          · rw [upd_ne ntF, t7]
            have e1 : (1 + ((j : Nat) : Int)) = ((j + 1 : Nat) : Int) := by omega
            rw [e1]
          · rw [upd_ne nWF, w7]
            rw [hl] at hl'
            rw [Option.some.inj hl']
        · rw [fset_ne hji, fset_ne hji]
          obtain ⟨i1, i2, i3, i4⟩ := items j (by omega)
          exact ⟨by rw [upd_ne i3]; exact s7 _ _ i1, fun l' hl' => by rw [upd_ne i4]; exact s7 _ _ (i2 l' hl'), i3, i4⟩
  · rintro σ H2 ⟨z2, z3, z4, z5, rfl, s2, p2, ta, wa, f2, items⟩
    rw [List.length_map, List.length_map] at f2 items
    dsimp only
    exact st_ret (v_var rfl) (q F ta wa H2 s2 ⟨f2, fun i hi => (items i hi).1, fun i l hl => (items i (List.getElem?_eq_some_iff.mp hl).1).2.1 l hl⟩)
end
end Cm
set_option maxHeartbeats 1000000
namespace Cm
open PySem PySem.Spec L2
theorem dg_tl {d : Nat} (h : d < 10) : (dg d).cps.toList = [48 + d] := by
  have e : TL.tl (dg d) = TL.numL d := TL.tl_num d
  rw [TL.numL_lt h] at e
  exact e
theorem dg_len {d : Nat} (h : d < 10) : (dg d).length = 1 := by
  rw [TL.len_tl]
  show (dg d).cps.toList.length = 1
  rw [dg_tl h]
  rfl
theorem dg_int {d : Nat} (h : d < 10) : PySem.intText? (dg d) = some (d : Int) := TL.int_num (by
  rw [TL.numL_lt h]
  show 1 ≤ 4300
  decide)
theorem str_ne_empty {x : Str} (h : x.cps.toList ≠ []) : decide (x = "") = false := decide_eq_false fun z => h (by rw [z]; rfl)
theorem digits_in {c : Nat} (h : 48 ≤ c ∧ c ≤ 57) : c ∈ ("0123456789" : Str).cps.toList := by
  have k : ∀ i, i < 10 → 48 + i ∈ ("0123456789" : Str).cps.toList := by decide +kernel
  have := k (c - 48) (by omega)
  rwa [show 48 + (c - 48) = c by omega] at this
theorem lower_in {c : Nat} (h : 97 ≤ c ∧ c ≤ 122) : c ∈ ("abcdefghijklmnopqrstuvwxyz" : Str).cps.toList := by
  have k : ∀ i, i < 26 → 97 + i ∈ ("abcdefghijklmnopqrstuvwxyz" : Str).cps.toList := by decide +kernel
  have := k (c - 97) (by omega)
  rwa [show 97 + (c - 97) = c by omega] at this
section
variable {e : En}
theorem p_made_of (vs : List V) (H : Hp) (Q : VK) (E : XK) (h : sp_made_of e vs H Q E) : t_made_of e { nx := fun _ H' => Q .non H', rt := Q } (start N_made_of vs) H := by
  obtain ⟨x, y, rfl, q⟩ := h
  refine st_seq (st_forx ?_)
  refine ⟨.str x, rfl, x, rfl, ?_⟩
  refine for_strS (x := x) (fun i σ H' => ∃ z, σ = [some (.str x), some (.str y), z] ∧ H' = H ∧ (x.cps.toList.take i).all (fun c => decide (c ∈ y.cps.toList)) = true) ⟨_, rfl, rfl, rfl⟩ ?_ ?_
  · rintro i c σ H' hc ⟨z, rfl, rfl, ha⟩
    by_cases hm : c ∈ y.cps.toList
    · refine st_no (ans_notIn (v_var rfl) (v_var rfl) (by rw [decide_eq_true hm]; rfl)) (st_next ⟨_, rfl, rfl, ?_⟩)
      rw [List.take_add_one, hc, List.all_append, ha]
      show (true && (decide _ && true)) = true
      rw [decide_eq_true hm]
      rfl
    · refine st_yes (ans_notIn (v_var rfl) (v_var rfl) (by rw [decide_eq_false hm]; rfl)) (st_ret val_c ?_)
      have : x.cps.toList.all (fun c => decide (c ∈ y.cps.toList)) = false := by
        rw [List.all_eq_false]
        exact ⟨c, List.mem_of_getElem? hc, by rw [decide_eq_false hm]; decide⟩
      rw [this] at q
      exact q
  · rintro σ H' ⟨z, rfl, rfl, ha⟩
    rw [List.take_length] at ha
    rw [ha] at q
    dsimp only
    exact st_ret val_c q
theorem v_made {σ : L2.St} {H : Hp} {ta tb : TE} {x y : Str} (ha : Val ta σ H (.str x)) (hb : Val tb σ H (.str y)) (h : ∀ c, c ∈ x.cps.toList → c ∈ y.cps.toList) : Val (tCall (sp_made_of e) [] C8.E0 (tCons ta (tCons tb tNil))) σ H (.bl true) :=
  v_callP (arg_cons ha (arg_cons hb arg_nil)) fun Q q => ⟨x, y, rfl, by
    have : x.cps.toList.all (fun c => decide (c ∈ y.cps.toList)) = true := List.all_eq_true.mpr fun c hc => decide_eq_true (h c hc)
    rw [this]
    exact q⟩
theorem p_number_of (vs : List V) (H : Hp) (Q : VK) (E : XK) (h : sp_number_of e vs H Q E) : t_number_of e { nx := fun _ H' => Q .non H', rt := Q } (start N_number_of vs) H := by
  obtain ⟨d, rfl, hd, q⟩ := h
  have tl := dg_tl hd
  have len := dg_len hd
  refine st_seq (st_no (ans_or (a_eqS (v_var rfl) val_c (str_ne_empty (by rw [tl]; simp))) (ans_not (a_B (v_made (v_var rfl) val_c fun c hc => ?_)))) (st_next ?_))
  · rw [tl] at hc
    have : c = 48 + d := by simpa using hc
    exact digits_in (by omega)
  · dsimp only
    refine st_seq (st_no ((ans_and2 (a_eqS (v_ixS (i := 0) (v_var rfl) val_c (by rw [len]; decide) (by rw [tl]; rfl)) val_c rfl) (a_gt (v_lenStr (v_var rfl) (by rw [len]; decide)) val_c (decide_eq_false (by rw [len]; decide)))).to (Bool.and_false _)) (st_next ?_))
    dsimp only
    refine st_rt (e_cb1 ?_)
    exact v_var rfl _ ⟨dg d, d, rfl, dg_int hd, by rw [len]; decide, q⟩
theorem p_is_name (vs : List V) (H : Hp) (Q : VK) (E : XK) (h : sp_is_name e vs H Q E) : t_is_name e { nx := fun _ H' => Q .non H', rt := Q } (start N_is_name vs) H := by
  obtain ⟨x, rfl, ok, q⟩ := h
  obtain ⟨c, r, hd, hc, hr⟩ := ok.hd
  have len := ok.len
  have h0 : x.cps.toList[0]? = some c := by rw [hd]; rfl
  refine st_seq (st_no (ans_or (a_eqS (v_var rfl) val_c (str_ne_empty ok.ne)) (ans_or (a_gt (v_lenStr (v_var rfl) (by omega)) val_c (decide_eq_false (by omega))) (ans_notIn (v_ixS (i := 0) (v_var rfl) val_c (by omega) h0) val_c (by rw [decide_eq_true (lower_in hc)]; rfl)))) (st_next ?_))
  dsimp only
  refine st_seq (st_no (ans_not (a_B (v_made (v_var rfl) (v_addS val_c val_c (by decide)) fun c hc => ?_))) (st_next ?_))
  · have e1 : (("abcdefghijklmnopqrstuvwxyz" : Str) ++ ("0123456789" : Str)).cps.toList = ("abcdefghijklmnopqrstuvwxyz" : Str).cps.toList ++ ("0123456789" : Str).cps.toList := TL.tl_append _ _
    rw [e1, List.mem_append]
    rcases ok.all c hc with h | h
    · exact .inl (lower_in h)
    · exact .inr (digits_in h)
  · dsimp only
    refine st_ret (v_orV (b := decide (x = "r")) (c := true) (val_op (v_var rfl) val_c fun Q q => ⟨rfl, by rw [dec_str]; exact q⟩) (fun _ => ?_) (fun _ => rfl)) q
    refine v_orV (b := true) (val_op (v_ixS (i := 0) (v_var rfl) val_c (by omega) h0) val_c fun Q q => ⟨rfl, ?_⟩) (fun z => nomatch z) (fun _ => rfl)
    rw [dec_str, decide_eq_false (fun z => hr ?_)]
    · exact q
    · have := congrArg (fun y : Str => y.cps.toList) z
      have e2 : ([c] : List Nat) = [114] := this
      simpa using e2
theorem inV_int {n : Int} {cs : List Int} (h : n ∈ cs) : inV (.int n) (cs.map V.int) = true := by
  unfold inV
  rw [List.any_eq_true]
  exact ⟨.int n, List.mem_map.mpr ⟨n, h, rfl⟩, by simp [eqV]⟩
theorem inV_str {x : Str} {cs : List Str} : inV (.str x) (cs.map V.str) = decide (x ∈ cs) := by
  unfold inV
  induction cs with
  | nil => rfl
  | cons y r ih =>
    rw [List.map_cons, List.any_cons, ih]
    by_cases h : y = x
    · subst h
      simp [eqV]
    · have h2 : x ≠ y := fun z => h z.symm
      simp [eqV, h, h2]
theorem a_notIn {K : PySem.W.Frag} {σ : L2.St} {H : Hp} {ta tb : TE} {v : V} {a : Addr} {xs : List V} (ha : Val ta σ H v) (hb : Val tb σ H (.ref a)) (hx : SqT K H a xs) (fv : flatV v = true) (fx : xs.all flatV = true) (h : inV v xs = true) : Ans (tTest (tOp (rIn K true) ta tb)) σ H false :=
  ans_cmp ha hb fun Q q => ⟨a, xs, rfl, Or.inr hx, fv, fx, by
    rw [h]
    exact q⟩
theorem all_flatI (cs : List Int) : (cs.map V.int).all flatV = true := by
  rw [List.all_map]
  exact List.all_eq_true.mpr fun _ _ => rfl
theorem all_flatS (cs : List Str) : (cs.map V.str).all flatV = true := by
  rw [List.all_map]
  exact List.all_eq_true.mpr fun _ _ => rfl
theorem p_check_count (vs : List V) (H : Hp) (Q : VK) (E : XK) (h : sp_check_count e vs H Q E) : t_check_count e { nx := fun _ H' => Q .non H', rt := Q } (start N_check_count vs) H := by
  obtain ⟨i, wl, cl, ws, cs, rfl, hw, hc, hm, q⟩ := h
  have vl := v_lenL (K := e.K) (ta := tVar 1) (σ := [some (.int i), some (.ref wl), some (.ref cl)]) (v_var rfl) hw
  rw [List.length_map] at vl
  exact st_no (a_notIn vl (v_var rfl) hc rfl (all_flatI cs) (inV_int hm)) (st_next q)
theorem p_due_line (vs : List V) (H : Hp) (Q : VK) (E : XK) (h : sp_due_line e vs H Q E) : t_due_line e { nx := fun _ H' => Q .non H', rt := Q } (start N_due_line vs) H := by
  obtain ⟨a, ls, ta, wa, i, x, l, cl, cs, rfl, sp, hl, hc, hm, q⟩ := h
  have hi : i < ls.length := (List.getElem?_eq_some_iff.mp hl).1
  have vl := v_lenL (K := e.K) (ta := tVar 0) (σ := [some (.ref a), some (.int (i : Int)), some (.str x), some (.ref cl), none, none]) (v_var rfl) sp.hd
  rw [row_len] at vl
  refine st_seq (st_no (a_ge (v_var rfl) vl (decide_eq_false (by omega))) (st_next ?_))
  dsimp only
  refine st_seq ?_
  refine v_ixL (v_var rfl) (v_var rfl) sp.hd (row_get (g := V.ref) hi) _ (g_two (sp.ta i hi) ?_)
  have hw := sp.wa i _ hl
  dsimp only
  refine st_seq (st_no (a_neS (v_ixL (z := 0) (v_var rfl) val_c hw rfl) (v_var rfl) (by rw [decide_eq_true rfl]; rfl)) (st_next ?_))
  dsimp only
  refine st_seq (st_do (v_call (arg_cons (v_var rfl) (arg_cons (v_var rfl) (arg_cons (v_var rfl) arg_nil))) ⟨_, wa i, cl, x :: l, cs, rfl, hw, hc, hm, ?_⟩))
  dsimp only
  refine st_rt (e_tup (arg_cons (v_var rfl) (arg_cons (v_var rfl) arg_nil)) (by show 2 ≤ 1000; decide) fun t ht => ?_)
  exact q t _ (same_new ht) upd_same
theorem p_any_number (vs : List V) (H : Hp) (Q : VK) (E : XK) (h : sp_any_number e vs H Q E) : t_any_number e { nx := fun _ H' => Q .non H', rt := Q } (start N_any_number vs) H := by
  obtain ⟨i, d, rfl, hd, q⟩ := h
  refine st_seq (st_set (v_callP (v := .int (d : Int)) (arg_cons (v_var rfl) arg_nil) fun Q' q' => ⟨d, rfl, hd, q'⟩) ?_)
  dsimp only
  refine st_seq (st_no (ans_isN (v_var rfl) (decide_eq_false (fun z => nomatch z))) (st_next ?_))
  dsimp only
  exact st_ret (v_var rfl) q
theorem a_chain {σ : L2.St} {H : Hp} {ta tb tc : TE} {x y z : Int} (ha : Val ta σ H (.int x)) (hb : Val tb σ H (.int y)) (hc : Val tc σ H (.int z)) (h1 : x ≤ y) (h2 : y ≤ z) :
    Ans (tTest (tChain (rI0 fun i j => .bl (decide (i ≤ j))) (rI0 fun i j => .bl (decide (i ≤ j))) ta tb tc)) σ H true := by
  intro Q q
  refine ha _ ?_
  refine hb _ ?_
  refine ⟨x, y, rfl, rfl, decide (x ≤ y), rfl, ?_⟩
  rw [decide_eq_true h1]
  refine iteT ?_
  refine hc _ ?_
  refine ⟨y, z, rfl, rfl, decide (y ≤ z), rfl, ?_⟩
  rw [decide_eq_true h2]
  exact q
theorem p_read_number (vs : List V) (H : Hp) (Q : VK) (E : XK) (h : sp_read_number e vs H Q E) : t_read_number e { nx := fun _ H' => Q .non H', rt := Q } (start N_read_number vs) H := by
  obtain ⟨i, lo, hi, d, rfl, hd, h1, h2, q⟩ := h
  refine st_seq (st_set (v_callP (v := .int (d : Int)) (arg_cons (v_var rfl) (arg_cons (v_var rfl) arg_nil)) fun Q' q' => ⟨i, d, rfl, hd, q'⟩) ?_)
  dsimp only
  have ch : Ans (tTest (tChain (rI0 fun i j => .bl (decide (i ≤ j))) (rI0 fun i j => .bl (decide (i ≤ j))) (tVar 2) (tVar 4) (tVar 3))) [some (.int i), some (.str (dg d)), some (.int lo), some (.int hi), some (.int (d : Int))] H true := by
    exact a_chain (v_var rfl) (v_var rfl) (v_var rfl) h1 h2
  refine st_seq (st_no (ans_not ch) (st_next ?_))
  dsimp only
  exact st_ret (v_var rfl) q
theorem p_read_name (vs : List V) (H : Hp) (Q : VK) (E : XK) (h : sp_read_name e vs H Q E) : t_read_name e { nx := fun _ H' => Q .non H', rt := Q } (start N_read_name vs) H := by
  obtain ⟨i, x, rfl, ok, q⟩ := h
  refine st_seq (st_no (ans_not (a_B (v_callP (v := .bl true) (arg_cons (v_var rfl) arg_nil) fun Q' q' => ⟨x, rfl, ok, q'⟩))) (st_next ?_))
  dsimp only
  exact st_ret (v_var rfl) q
theorem p_read_choice (vs : List V) (H : Hp) (Q : VK) (E : XK) (h : sp_read_choice e vs H Q E) : t_read_choice e { nx := fun _ H' => Q .non H', rt := Q } (start N_read_choice vs) H := by
  obtain ⟨i, x, cl, cs, rfl, hc, hm, q⟩ := h
  refine st_seq (st_no (a_notIn (v_var rfl) (v_var rfl) hc rfl (all_flatS cs) (by rw [inV_str]; exact decide_eq_true hm)) (st_next ?_))
  dsimp only
  exact st_ret (v_var rfl) q
theorem p_read_state (vs : List V) (H : Hp) (Q : VK) (E : XK) (h : sp_read_state e vs H Q E) : t_read_state e { nx := fun _ H' => Q .non H', rt := Q } (start N_read_state vs) H := by
  obtain ⟨a, ls, ta, wa, i, x, d, most, rfl, sp, hl, h1, hd, h2, q⟩ := h
  refine st_seq ?_
  refine e_callx (e_cons (v_var rfl _ (e_cons (v_var rfl _ (e_cons (v_var rfl _ (e_cons (e_tup (arg_cons val_c arg_nil) (by show 1 ≤ 1000; decide) fun c hc => e_nil ?_))))))))
  have s1 := same_new (o := .tup [.int 2]) hc
  refine ⟨a, ls, ta, wa, i, x, [dg d], c, [2], rfl, ⟨s1 _ _ sp.hd, fun i hi => s1 _ _ (sp.ta i hi), fun i l h => s1 _ _ (sp.wa i l h)⟩, hl, SqT.of upd_same, by simp, fun t H2 s2 ht => g_two ht ?_⟩
  have hw := s2 _ _ (s1 _ _ (sp.wa i _ hl))
  dsimp only
  refine st_rt ?_
  exact v_call (arg_cons (v_var rfl) (arg_cons (v_ixL (z := 1) (v_var rfl) val_c hw rfl) (arg_cons val_c (arg_cons (v_var rfl) arg_nil)))) ⟨_, 1, most, d, rfl, hd, by omega, h2, q _ (s1.trans s2)⟩
end
end Cm
set_option maxHeartbeats 1000000
namespace Cm
open PySem PySem.Spec L2
section
variable {K : PySem.W.Frag} {σ : L2.St} {H : Hp} {ta tb te tl : TE} {tt : TT} {a : Addr} {xs : List V} {D : Ends} {ts : TS} {g : TG} {j : Nat} {vs : List Nat}
/-- .. over a tuple -/
theorem v_lcT {keep : V → Bool} {el : V → V} (hl : Val tl σ H (.ref a)) (hx : ∀ L o, H L = none → SqT K (upd H L o) a xs) (hx0 : SqT K H a xs) (hz : xs.length ≤ 100000)
    (ht : ∀ x L acc, x ∈ xs → H L = none → Ans tt ((wipe σ vs).set j (some x)) (upd H L (.lst acc)) (keep x)) (he : ∀ x L acc, x ∈ xs → keep x = true → H L = none → Val te ((wipe σ vs).set j (some x)) (upd H L (.lst acc)) (el x))
    (hw : ∀ x, wipe ((wipe σ vs).set j (some x)) vs = wipe σ vs) {Q : VK} (q : ∀ L, H L = none → Q (.ref L) (upd H L (.lst ((xs.filter keep).map el)))) : tLc (iTup K tl) (gName j) tt te vs σ H Q := by
  refine hl _ ⟨a, rfl, ⟨_, hx0⟩, fun L hL => lc_tup (K := K) (a := a) (xs := xs) (fun i H' => H' = upd H L (.lst (((xs.take i).filter keep).map el))) ?_ ?_ ?_ ?_⟩
  · show _ = _
    rw [List.take_zero] <;> rfl
  · intro i H' _ e
    rw [e]
    exact hx L _ hL
  · intro i x H' hx e
    subst e
    refine ⟨hw x, ht x L _ (List.mem_of_getElem? hx) hL _ ?_⟩
    have e1 : xs.take (i + 1) = xs.take i ++ [x] := by rw [List.take_add_one, hx] <;> rfl
    by_cases hk : keep x = true
    · rw [hk]
      refine iteT (he x L _ (List.mem_of_getElem? hx) hk hL _ ⟨_, upd_same, ?_, ?_⟩)
      · rw [List.length_map]
        have h1 := List.length_filter_le keep (xs.take i)
        have h2 : (xs.take i).length ≤ xs.length := List.length_take_le' ..
        exact Nat.lt_of_le_of_lt (Nat.le_trans h1 (Nat.le_trans h2 hz)) (by decide)
      · show upd _ _ _ = _
        rw [upd_upd, e1, List.filter_append, List.map_append, List.filter_cons, if_pos hk] <;> rfl
    · have hk2 : keep x = false := by cases h : keep x <;> first | rfl | exact absurd h hk
      rw [hk2]
      refine iteF ?_
      show upd _ _ _ = upd _ _ _
      rw [e1, List.filter_append, List.filter_cons, if_neg hk, List.filter_nil, List.append_nil]
  · intro H' e
    rw [List.take_length] at e
    rw [e]
    exact q L hL
theorem e_slice {lo hi : Option Int} {tlo thi : TO} {Q : VK} (ha : Val ta σ H (.ref a)) (hx : SqL K H a xs) (hlo : ∀ Q : Option Int → Hp → Prop, Q lo H → tlo σ H Q) (hhi : ∀ Q : Option Int → Hp → Prop, Q hi H → thi σ H Q) (q : ∀ p, H p = none → Q (.ref p) (upd H p (.lst (cutV xs lo hi)))) :
    tSl (rSlL K) ta tlo thi σ H Q := ha _ (hlo _ (hhi _ ⟨a, xs, rfl, hx, q⟩))
theorem po_c {i : Int} : ∀ Q : Option Int → Hp → Prop, Q (some i) H → tPart (tC (.int i)) σ H Q := fun Q q => ⟨i, rfl, q⟩
theorem po_n : ∀ Q : Option Int → Hp → Prop, Q none H → tNoPart σ H Q := fun Q q => q
end
variable {p : Pr} {i : Nat}
def rowWords (p : Pr) (i : Nat) : List Str := [("state" : Str), dg i, dg (p.wr i), dg (p.rd i), dg (p.st i)] ++ flagsL p i
theorem cut25 : cutV ((rowWords p i).map V.str) (some 2) (some 5) = [V.str (dg (p.wr i)), .str (dg (p.rd i)), .str (dg (p.st i))] := by
  unfold rowWords flagsL
  cases p.gr i <;> cases p.cr i <;> cases p.gs i <;> cases p.cs i <;> cases p.bk i <;> rfl
theorem cut5 : cutV ((rowWords p i).map V.str) (some 5) none = (flagsL p i).map V.str := by
  unfold rowWords flagsL
  cases p.gr i <;> cases p.cr i <;> cases p.gs i <;> cases p.cs i <;> cases p.bk i <;> rfl
def FL : List Str := ["giveread", "cleanread", "givesteal", "cleansteal", "back"]
theorem flags_len : (flagsL p i).length ≤ 5 := by
  unfold flagsL
  cases p.gr i <;> cases p.cr i <;> cases p.gs i <;> cases p.cs i <;> cases p.bk i <;> decide
theorem flags_sub : ∀ x, x ∈ flagsL p i → x ∈ FL := by
  unfold flagsL FL
  cases p.gr i <;> cases p.cr i <;> cases p.gs i <;> cases p.cs i <;> cases p.bk i <;> decide
theorem flags_nd : (flagsL p i).Nodup := by
  unfold flagsL
  cases p.gr i <;> cases p.cr i <;> cases p.gs i <;> cases p.cs i <;> cases p.bk i <;> decide
theorem flags_filter : ((FL.map V.str).filter fun v => inV v ((flagsL p i).map V.str)) = (flagsL p i).map V.str := by
  unfold flagsL FL
  cases p.gr i <;> cases p.cr i <;> cases p.gs i <;> cases p.cs i <;> cases p.bk i <;> decide
theorem flag_ok : ∀ x, x ∈ FL → WordOk x := by
  have k : ∀ x, x ∈ FL → x.cps.toList ≠ [] ∧ (∀ c, c ∈ x.cps.toList → 33 ≤ c ∧ c ≤ 126) ∧ x.length ≤ 20 := by
    unfold FL
    decide +kernel
  exact k
theorem line_row {nm : Str} {s : Nat} (hs : s < p.n) : (lines nm p)[6 + s]? = some (rowWords p (s + 1)) := by
  unfold lines
  rw [List.getElem?_append_right (by show 6 ≤ 6 + s; omega)]
  show ((List.range p.n).map _)[6 + s - 6]? = _
  rw [show 6 + s - 6 = s by omega, List.getElem?_map, List.getElem?_range hs] <;> rfl
/-- a number's text to the number -/
def numV : V → V
  | .str z => match PySem.intText? z with
    | some n => .int n
    | none => .non
  | _ => .non
theorem numV_dg {d : Nat} (h : d < 10) : numV (.str (dg d)) = .int (d : Int) := by
  show (match PySem.intText? (dg d) with
    | some n => V.int n
    | none => .non) = _
  rw [dg_int h]
section
variable {e : En} (T : Tx e)
include T
theorem p_read_row (vs : List V) (H : Hp) (Q : VK) (E : XK) (h : sp_read_row e vs H Q E) : t_read_row e { nx := fun _ H' => Q .non H', rt := Q } (start N_read_row vs) H := by
  obtain ⟨a, nm, p, ta, wa, s, rfl, sp, pok, hs, q⟩ := h
  have hl := line_row (nm := nm) hs
  have n4 := pok.n4
  have w4 := pok.wr1 (s + 1)
  have r4 := pok.rd1 (s + 1)
  have t4 := pok.st1 (s + 1)
  have hF := flags_len (p := p) (i := s + 1)
  refine st_seq ?_
  refine v_call (arg_cons (v_var rfl) (arg_cons (v_is (v_sub (v_add val_c (v_var rfl)) val_c) (w := .int ((6 + s : Nat) : Int)) (congrArg V.int (by omega))) (arg_cons val_c (arg_cons val_c arg_nil)))) ?_
  refine ⟨a, lines nm p, ta, wa, 6 + s, "state", [dg (s + 1), dg (p.wr (s + 1)), dg (p.rd (s + 1)), dg (p.st (s + 1))] ++ flagsL p (s + 1), e.STATE_COUNTS, [5, 6, 7, 8, 9, 10], rfl, sp, hl, T.tu_STATE_COUNTS H, ?_, fun t1 H1 s1 h1 => g_two h1 ?_⟩
  · rw [List.length_append]
    show (((4 + (flagsL p (s + 1)).length + 1 : Nat)) : Int) ∈ _
    have : (flagsL p (s + 1)).length = 0 ∨ (flagsL p (s + 1)).length = 1 ∨ (flagsL p (s + 1)).length = 2 ∨ (flagsL p (s + 1)).length = 3 ∨ (flagsL p (s + 1)).length = 4 ∨ (flagsL p (s + 1)).length = 5 := by omega
    rcases this with z | z | z | z | z | z <;> rw [z] <;> decide
  have hw := s1 _ _ (sp.wa _ _ hl)
  generalize wa (6 + s) = W at hw
  dsimp only
  refine st_seq (st_drop (v_callP (v := .int ((s + 1 : Nat) : Int)) (arg_cons (v_var rfl) (arg_cons (v_ixL (z := 1) (v_var rfl) val_c hw rfl) (arg_cons (v_var rfl) (arg_cons (v_var rfl) arg_nil)))) fun Q' q' => ⟨_, _, _, s + 1, rfl, by omega, Int.le_refl _, Int.le_refl _, q'⟩) ?_)
  dsimp only
  refine st_seq ?_
  refine lc_over ?_
  refine e_slice (v_var rfl) (SqL.of hw) po_c po_c fun p2 n2 => ?_
  rw [cut25]
  have s2 := s1.trans (same_new (o := .lst [V.str (dg (p.wr (s + 1))), .str (dg (p.rd (s + 1))), .str (dg (p.st (s + 1)))]) n2)
  have hp2 : upd H1 p2 (.lst [V.str (dg (p.wr (s + 1))), .str (dg (p.rd (s + 1))), .str (dg (p.st (s + 1)))]) p2 = some (.lst [V.str (dg (p.wr (s + 1))), .str (dg (p.rd (s + 1))), .str (dg (p.st (s + 1)))]) := upd_same
  have hw2 := same_new (o := .lst [V.str (dg (p.wr (s + 1))), .str (dg (p.rd (s + 1))), .str (dg (p.st (s + 1)))]) n2 _ _ hw
  generalize upd H1 p2 (.lst [V.str (dg (p.wr (s + 1))), .str (dg (p.rd (s + 1))), .str (dg (p.st (s + 1)))]) = H2 at *
  have nums : ∀ y, y ∈ [V.str (dg (p.wr (s + 1))), .str (dg (p.rd (s + 1))), .str (dg (p.st (s + 1)))] → ∃ d : Nat, y = .str (dg d) ∧ d < 10 ∧ d ≤ p.n := fun y hy => by
    simp only [List.mem_cons, List.not_mem_nil, or_false] at hy
    rcases hy with rfl | rfl | rfl
    · exact ⟨_, rfl, by omega, w4⟩
    · exact ⟨_, rfl, by omega, r4⟩
    · exact ⟨_, rfl, by omega, t4⟩
  refine v_lcL (K := e.K) (keep := fun _ => true) (el := numV) val_c hp2 (by show 3 ≤ 100000; decide) (fun _ _ _ _ _ => a_yes) (fun y L acc hy _ _ => ?_) (fun _ => rfl) fun L3 n3 => ?_
  · obtain ⟨d, rfl, d1, d2⟩ := nums y hy
    rw [numV_dg d1]
    exact v_callP (arg_cons (v_var rfl) (arg_cons (v_var rfl) (arg_cons val_c (arg_cons (v_var rfl) arg_nil)))) fun Q' q' => ⟨_, 0, _, d, rfl, d1, by omega, by omega, q'⟩
  have e3 : (([V.str (dg (p.wr (s + 1))), .str (dg (p.rd (s + 1))), .str (dg (p.st (s + 1)))] : List V).filter fun _ => true).map numV = [.int (p.wr (s + 1) : Nat), .int (p.rd (s + 1) : Nat), .int (p.st (s + 1) : Nat)] := by
    show [numV _, numV _, numV _] = _
    rw [numV_dg (by omega), numV_dg (by omega), numV_dg (by omega)]
  rw [e3]
  have s3 := s2.trans (same_new (o := .lst [.int (p.wr (s + 1) : Nat), .int (p.rd (s + 1) : Nat), .int (p.st (s + 1) : Nat)]) n3)
  have hp3 : upd H2 L3 (.lst [.int (p.wr (s + 1) : Nat), .int (p.rd (s + 1) : Nat), .int (p.st (s + 1) : Nat)]) L3 = some (.lst [.int (p.wr (s + 1) : Nat), .int (p.rd (s + 1) : Nat), .int (p.st (s + 1) : Nat)]) := upd_same
  have hw3 := same_new (o := .lst [.int (p.wr (s + 1) : Nat), .int (p.rd (s + 1) : Nat), .int (p.st (s + 1) : Nat)]) n3 _ _ hw2
  generalize upd H2 L3 (.lst [.int (p.wr (s + 1) : Nat), .int (p.rd (s + 1) : Nat), .int (p.st (s + 1) : Nat)]) = H3 at *
  refine ⟨L3, _, rfl, SqL.of hp3, rfl, _, _, rfl, _, _, rfl, _, _, rfl, rfl, ?_⟩
  dsimp only
  refine st_seq (st_asg (e_lst arg_nil (by show 0 ≤ 1000; decide) fun G nG => ?_))
  have s4 := s3.trans (same_new (o := .lst []) nG)
  have hG : upd H3 G (.lst []) G = some (.lst []) := upd_same
  have hw4 := same_new (o := .lst []) nG _ _ hw3
  have nG0 : H G = none := s3.free nG
  generalize upd H3 G (.lst []) = H4 at *
  dsimp only
  refine st_seq (st_forOver (e_slice (v_var rfl) (SqL.of hw4) po_c po_n fun p5 n5 => ?_))
  rw [cut5]
  have s5 := s4.trans (same_new (o := .lst ((flagsL p (s + 1)).map V.str)) n5)
  have hp5 : upd H4 p5 (.lst ((flagsL p (s + 1)).map V.str)) p5 = some (.lst ((flagsL p (s + 1)).map V.str)) := upd_same
  have nGp : G ≠ p5 := ne_of_none hG n5
  have hG5 := same_new (o := .lst ((flagsL p (s + 1)).map V.str)) n5 _ _ hG
  generalize upd H4 p5 (.lst ((flagsL p (s + 1)).map V.str)) = H5 at *
  dsimp only
  refine st_forL (K := e.K) (a := p5) (xs := (flagsL p (s + 1)).map V.str) val_c hp5 (fun i σ H' => ∃ z9 z10, σ = [some (.ref a), some (.int ((s + 1 : Nat) : Int)), some (.int (p.n : Int)), some (.int ((6 + s + 1 : Nat) : Int)), some (.ref W), some (.int (p.wr (s + 1) : Nat)), some (.int (p.rd (s + 1) : Nat)), some (.int (p.st (s + 1) : Nat)), some (.ref G), z9, z10] ∧
    Same H H' ∧ H' p5 = some (.lst ((flagsL p (s + 1)).map V.str)) ∧ H' G = some (.lst (((flagsL p (s + 1)).take i).map V.str))) ⟨_, _, rfl, s5, hp5, hG5⟩ ?_ ?_ ?_
  · rintro i σ H' _ ⟨z9, z10, rfl, s6, h6, hG6⟩
    exact h6
  · rintro i y σ H' hy ⟨z9, z10, rfl, s6, h6, hG6⟩
    rw [List.getElem?_map] at hy
    obtain ⟨x, hx, rfl⟩ := Option.map_eq_some_iff.mp hy
    refine st_seq (st_set (v_callP (v := .str x) (arg_cons (v_var rfl) (arg_cons (v_var rfl) (arg_cons val_c arg_nil))) fun Q' q' => ⟨_, x, e.FLAGS, FL, rfl, T.tu_FLAGS _, flags_sub x (List.mem_of_getElem? hx), q'⟩) ?_)
    dsimp only
    have hnx : x ∉ (flagsL p (s + 1)).take i := fun m => by
      obtain ⟨j, hj⟩ := List.mem_iff_getElem?.mp m
      have hlt : j < i := by
        have := (List.getElem?_eq_some_iff.mp hj).1
        rw [List.length_take] at this
        omega
      rw [List.getElem?_take_of_lt hlt] at hj
      have := (List.getElem?_inj (List.getElem?_eq_some_iff.mp hj).1 flags_nd).mp (hj.trans hx.symm)
      omega
    refine st_seq (st_no (a_in (v_var rfl) (v_var rfl) hG6 (by rw [inV_str]; exact decide_eq_false hnx)) (st_next ?_))
    dsimp only
    refine st_append (v_var rfl) hG6 ?_
    refine v_var rfl _ ?_
    refine ⟨G, _, _, rfl, rfl, hG6, ?_, _, _, rfl, fun b o hb => ?_, ?_, ?_⟩
    · rw [List.length_map, List.length_take]
      exact Nat.lt_of_lt_of_le (show _ < 1000 by omega) (by decide)
    · rw [upd_ne (ne_of_none hb nG0)]
      exact s6 _ _ hb
    · rw [upd_ne nGp.symm]
      exact h6
    · rw [upd_same, List.take_add_one, hx, List.map_append] <;> rfl
  · rintro σ H' ⟨z9, z10, rfl, s6, h6, hG6⟩
    rw [List.length_map, List.take_length] at hG6
    dsimp only
    refine st_seq (st_ifx (e_test ?_))
    refine v_var rfl _ ?_
    have tu : ∀ H : Hp, SqT e.K H e.FLAGS (FL.map V.str) := T.tu_FLAGS
    refine v_lcT (K := e.K) (a := e.FLAGS) (xs := FL.map V.str) (keep := fun v => inV v ((flagsL p (s + 1)).map V.str)) (el := id) val_c (fun L o _ => tu _) (tu _) (by decide) (fun y L acc hy hL => ?_) (fun y L acc hy _ hL => v_var rfl) (fun _ => rfl) fun L nL => ?_
    · obtain ⟨x, hx, rfl⟩ := List.mem_map.mp hy
      exact a_in (v_var rfl) (v_var rfl) (by rw [upd_ne (ne_of_none hG6 hL)]; exact hG6) rfl
    · rw [flags_filter, List.map_id]
      have s7 := same_new (o := .lst ((flagsL p (s + 1)).map V.str)) nL
      have sh := shaped_strs (flagsL p (s + 1)) fun x hx => flag_ok x (flags_sub x hx)
      refine ⟨_, _, .lst (SqL.of (s7 _ _ hG6)) (dp_strs _), .lst (SqL.of upd_same) (dp_strs _), sh, sh, false, by rw [SeqAt.eqv_refl _ (SeqAt.canLay_of_shaped sh)]; rfl, iteF (st_next ?_)⟩
      have hG7 := s7 _ _ hG6
      have s8 := s6.trans s7
      generalize upd H' L (.lst ((flagsL p (s + 1)).map V.str)) = H7 at *
      dsimp only
      refine st_rt (e_tupx (e_cons (v_var rfl _ (e_cons (v_var rfl _ (e_cons (v_var rfl _ (e_cons ?_))))))))
      refine e_tupL (v_var rfl) (SqL.of hG7) fun fl nfl => ?_
      have s9 := same_new (o := .tup ((flagsL p (s + 1)).map V.str)) nfl
      refine e_nil ⟨by show 4 ≤ sizeLine; decide, fun t nt => ?_⟩
      have s10 := same_new (o := .tup [.int (p.wr (s + 1) : Nat), .int (p.rd (s + 1) : Nat), .int (p.st (s + 1) : Nat), .ref fl]) nt
      exact q t fl _ (s8.trans (s9.trans s10)) ((s8.trans s9).free nt) (s8.free nfl) upd_same (s10 _ _ upd_same)
end
end Cm
set_option maxHeartbeats 1000000
namespace Cm
open PySem PySem.Spec L2
def sf0 (nm : V) (p : Pr) : List (Str × V) := [("name", nm), ("states", .int (p.n : Nat)), ("lone", .int (p.lone : Nat)), ("shared", .int (p.shared : Nat)), ("own", .int (p.own : Nat)), ("through", .bl p.thr)]
theorem row_cons {α : Type} {g : α → V} {n : Nat} {f : Nat → α} : row g (n + 1) f = g (f 0) :: (List.range n).map fun i => g (f (i + 1)) := by
  unfold row
  rw [List.range_succ_eq_map, List.map_cons, List.map_map]
  rfl
section
variable {e : En} (T : Tx e)
include T
/-- self.f = [v0] + [.. for row in rows] -/
theorem st_rowF {f : Str} {v0 : V} {n : Nat} {el : Nat → V} {te : TE} {x dx rl : Addr} {fs : List (Str × V)} {ta : Nat → Addr} {D : Ends} {H : Hp} {z1 z2 z3 z5 : Option V} (na : NoAttr e.K e.Scheme f) (hx : H x = some (.ins e.Scheme dx fs)) (hr : H rl = some (.lst (rowR n ta))) (hn : n ≤ 4) (hl : fs.length < 1000)
    (he : ∀ i H', i < n → Same H H' → Val te [some (.ref x), z1, z2, z3, some (.ref rl), some (.ref (ta i))] H' (el i))
    (q : ∀ (b : Addr) (H' : Hp), H b = none → (∀ c o, H c = some o → c ≠ x → H' c = some o) → H' x = some (.ins e.Scheme dx (putF f (.ref b) fs)) → H' b = some (.lst (v0 :: (List.range n).map el)) → D.nx [some (.ref x), z1, z2, z3, some (.ref rl), z5] H') :
    sFld e.K (tVar 0) (tOp rCat (tLst (tCons (tC v0) tNil)) (tLc (iList e.K (tVar 4)) (gName 5) tYes te [5])) f D [some (.ref x), z1, z2, z3, some (.ref rl), z5] H := by
  show (tOp rCat (tLst (tCons (tC v0) tNil)) (tLc (iList e.K (tVar 4)) (gName 5) tYes te [5])) _ H _
  refine e_op (e_lst (arg_cons val_c arg_nil) (by show 1 ≤ 1000; decide) fun a1 n1 => ?_)
  have s1 := same_new (o := .lst [v0]) n1
  have h1 : upd H a1 (.lst [v0]) a1 = some (.lst [v0]) := upd_same
  generalize upd H a1 (.lst [v0]) = H1 at *
  refine v_lcGL (K := e.K) (a := rl) (ys := rowR n ta) (fun k v _ => v = el k) (fun _ _ _ _ _ h => h) (v_var rfl) (SqL.of (s1 _ _ hr)) (by rw [row_len]; omega) (fun i y H2 hy s2 Q' q' => ?_) (fun _ => rfl) fun L xs H2 nL s2 hL len items _ => ?_
  · have hi : i < n := by
      have := (List.getElem?_eq_some_iff.mp hy).1
      rw [row_len] at this
      exact this
    rw [row_get (g := V.ref) hi] at hy
    obtain rfl := Option.some.inj hy
    exact he i H2 hi (s1.trans s2) _ (q' _ _ (fun _ _ z => z) rfl)
  · rw [row_len] at len
    have ex : xs = (List.range n).map el := by
      apply List.ext_getElem?
      intro k
      by_cases hk : k < n
      · have e1 := List.getElem?_eq_getElem (l := xs) (i := k) (by omega)
        rw [e1, items k _ e1, List.getElem?_map, List.getElem?_range hk] <;> rfl
      · rw [List.getElem?_eq_none (by omega), List.getElem?_eq_none (by simp; omega)]
    subst ex
    refine ⟨a1, L, [v0], _, rfl, rfl, s2 _ _ h1, hL, ?_, fun b nb => ?_⟩
    · rw [List.length_map, List.length_range]
      exact Nat.le_trans (show 1 + n ≤ 1000 by omega) (by decide)
    · have s3 := same_new (o := .lst ([v0] ++ (List.range n).map el)) nb
      have s0 := s1.trans (s2.trans s3)
      have nb0 : H b = none := (s1.trans s2).free nb
      have nbx : b ≠ x := (ne_of_none hx nb0).symm
      refine v_var rfl _ ⟨x, e.Scheme, dx, fs, rfl, s0 _ _ hx, T.cl_Scheme, na, hl, ?_⟩
      refine q b _ nb0 (fun c o hc hne => ?_) upd_same ?_
      · rw [upd_ne hne]
        exact s0 _ _ hc
      · rw [upd_ne nbx]
        exact upd_same
theorem p_Scheme___init__ (vs : List V) (H : Hp) (Q : VK) (E : XK) (h : sp_Scheme___init__ e vs H Q E) : t_Scheme___init__ e { nx := fun _ H' => Q .non H', rt := Q } (start N_Scheme___init__ vs) H := by
  obtain ⟨x, dx, nm, nt, rl, p, ta, fa, rfl, hx, pok, hnt, hrl, hrows, q⟩ := h
  have n4 := pok.n4
  have nnt : nt ≠ x := fun z => by
    rw [z, hx] at hnt
    cases hnt
  have nrl : rl ≠ x := fun z => by
    rw [z, hx] at hrl
    cases hrl
  have nta : ∀ i, i < p.n → ta i ≠ x := fun i hi z => by
    have := (hrows i hi).1
    rw [z, hx] at this
    cases this
  have nfa : ∀ i, i < p.n → fa i ≠ x := fun i hi z => by
    have := (hrows i hi).2
    rw [z, hx] at this
    cases this
  refine st_seq (st_fld (v_var rfl) (v_var rfl) hx T.cl_Scheme T.na_Scheme_name (by show 0 < 1000; decide) ?_)
  dsimp only
  have hx1 : upd H x (.ins e.Scheme dx (putF "name" (.str nm) [])) x = some (.ins e.Scheme dx (putF "name" (.str nm) [])) := upd_same
  refine st_seq ?_
  refine v_var rfl _ ⟨nt, _, rfl, SqT.of (by rw [upd_ne nnt]; exact hnt), rfl, _, _, rfl, ?_⟩
  refine v_var rfl _ ⟨x, e.Scheme, dx, _, rfl, hx1, T.cl_Scheme, T.na_Scheme_states, by show 1 < 1000; decide, _, _, rfl, ?_⟩
  refine v_var rfl _ ⟨x, e.Scheme, dx, _, rfl, upd_same, T.cl_Scheme, T.na_Scheme_lone, by show 2 < 1000; decide, _, _, rfl, ?_⟩
  refine v_var rfl _ ⟨x, e.Scheme, dx, _, rfl, upd_same, T.cl_Scheme, T.na_Scheme_shared, by show 3 < 1000; decide, _, _, rfl, ?_⟩
  refine v_var rfl _ ⟨x, e.Scheme, dx, _, rfl, upd_same, T.cl_Scheme, T.na_Scheme_own, by show 4 < 1000; decide, rfl, ?_⟩
  dsimp only
  refine st_seq (st_fld (v_var rfl) (v_var rfl) upd_same T.cl_Scheme T.na_Scheme_through (by show 5 < 1000; decide) ?_)
  dsimp only
  simp only [upd_upd]
  have e6 : putF "through" (.bl p.thr) (putF "own" (.int (p.own : Nat)) (putF "shared" (.int (p.shared : Nat)) (putF "lone" (.int (p.lone : Nat)) (putF "states" (.int (p.n : Nat)) (putF "name" (.str nm) []))))) = sf0 (.str nm) p := rfl
  rw [e6]
  have o1 : ∀ c o, H c = some o → c ≠ x → (upd H x (.ins e.Scheme dx (sf0 (.str nm) p))) c = some o := fun c o h n => by
    rw [upd_ne n]
    exact h
  have x1 : (upd H x (.ins e.Scheme dx (sf0 (.str nm) p))) x = some (.ins e.Scheme dx (sf0 (.str nm) p)) := upd_same
  have f1 : ∀ c, (upd H x (.ins e.Scheme dx (sf0 (.str nm) p))) c = none → H c = none ∧ c ≠ x := fun c h => by
    have n : c ≠ x := fun z => by
      rw [z, x1] at h
      cases h
    rw [upd_ne n] at h
    exact ⟨h, n⟩
  generalize upd H x (.ins e.Scheme dx (sf0 (.str nm) p)) = H1 at o1 x1 f1
  -- what stands at each step
  have int : ∀ (G : Hp) (F : Nat → Nat) (k : Nat), (∀ c o, H c = some o → c ≠ x → G c = some o) → (∀ i, ([V.int (p.wr (i + 1) : Nat), .int (p.rd (i + 1) : Nat), .int (p.st (i + 1) : Nat), .ref (fa i)])[k]? = some (.int (F (i + 1) : Nat))) →
      ∀ i H', i < p.n → Same G H' → Val (tOp (rIxT e.K) (tVar 5) (tC (.int (k : Int)))) [some (.ref x), some (.str nm), some (.ref nt), some (.bl p.thr), some (.ref rl), some (.ref (ta i))] H' (.int (F (i + 1) : Nat)) := fun G F k o hk i H' hi s => v_ixT (z := k) (v_var rfl) val_c (s _ _ (o _ _ (hrows i hi).1 (nta i hi))) (hk i)
  have fl : ∀ (G : Hp) (F : Nat → Bool) (w : Str), (∀ c o, H c = some o → c ≠ x → G c = some o) → (∀ i, inV (.str w) ((flagsL p i).map V.str) = F i) →
      ∀ i H', i < p.n → Same G H' → Val (tOp (rIn e.K false) (tC (.str w)) (tOp (rIxT e.K) (tVar 5) (tC (.int 3)))) [some (.ref x), some (.str nm), some (.ref nt), some (.bl p.thr), some (.ref rl), some (.ref (ta i))] H' (.bl (F (i + 1))) := fun G F w o hF i H' hi s =>
    val_op val_c (v_ixT (z := 3) (v_var rfl) val_c (s _ _ (o _ _ (hrows i hi).1 (nta i hi))) rfl) fun Q q => ⟨fa i, _, rfl, Or.inr (SqT.of (s _ _ (o _ _ (hrows i hi).2 (nfa i hi)))), rfl, all_flatS _, by
      rw [← hF (i + 1)] at q
      exact q⟩
  obtain ⟨z1, z2, z3, z4, z5, z6, z7, z8⟩ := pok.zero
  show tSeq _ _ _ _ _
  refine st_seq (st_rowF T (v0 := .int 0) (el := fun i => .int (p.wr (i + 1) : Nat)) T.na_Scheme_write x1 (o1 _ _ hrl nrl) n4 (by show 6 < 1000; decide) (int H1 p.wr 0 o1 fun _ => rfl) fun b1 H2 nb1 o2' x2 h2 => ?_)
  have o2 : ∀ c o, H c = some o → c ≠ x → H2 c = some o := fun c o h n => o2' _ _ (o1 _ _ h n) n
  dsimp only
  refine st_seq (st_rowF T (v0 := .int 0) (el := fun i => .int (p.rd (i + 1) : Nat)) T.na_Scheme_onread x2 (o2 _ _ hrl nrl) n4 (by show 7 < 1000; decide) (int H2 p.rd 1 o2 fun _ => rfl) fun b2 H3 nb2 o3' x3 h3 => ?_)
  have o3 : ∀ c o, H c = some o → c ≠ x → H3 c = some o := fun c o h n => o3' _ _ (o2 _ _ h n) n
  dsimp only
  refine st_seq (st_rowF T (v0 := .int 0) (el := fun i => .int (p.st (i + 1) : Nat)) T.na_Scheme_onsteal x3 (o3 _ _ hrl nrl) n4 (by show 8 < 1000; decide) (int H3 p.st 2 o3 fun _ => rfl) fun b3 H4 nb3 o4' x4 h4 => ?_)
  have o4 : ∀ c o, H c = some o → c ≠ x → H4 c = some o := fun c o h n => o4' _ _ (o3 _ _ h n) n
  dsimp only
  refine st_seq (st_rowF T (v0 := .bl false) (el := fun i => .bl (p.gr (i + 1))) T.na_Scheme_giveread x4 (o4 _ _ hrl nrl) n4 (by show 9 < 1000; decide) (fl H4 p.gr _ o4 fun _ => in_gr) fun b4 H5 nb4 o5' x5 h5 => ?_)
  have o5 : ∀ c o, H c = some o → c ≠ x → H5 c = some o := fun c o h n => o5' _ _ (o4 _ _ h n) n
  dsimp only
  refine st_seq (st_rowF T (v0 := .bl false) (el := fun i => .bl (p.cr (i + 1))) T.na_Scheme_cleanread x5 (o5 _ _ hrl nrl) n4 (by show 10 < 1000; decide) (fl H5 p.cr _ o5 fun _ => in_cr) fun b5 H6 nb5 o6' x6 h6 => ?_)
  have o6 : ∀ c o, H c = some o → c ≠ x → H6 c = some o := fun c o h n => o6' _ _ (o5 _ _ h n) n
  dsimp only
  refine st_seq (st_rowF T (v0 := .bl false) (el := fun i => .bl (p.gs (i + 1))) T.na_Scheme_givesteal x6 (o6 _ _ hrl nrl) n4 (by show 11 < 1000; decide) (fl H6 p.gs _ o6 fun _ => in_gs) fun b6 H7 nb6 o7' x7 h7 => ?_)
  have o7 : ∀ c o, H c = some o → c ≠ x → H7 c = some o := fun c o h n => o7' _ _ (o6 _ _ h n) n
  dsimp only
  refine st_seq (st_rowF T (v0 := .bl false) (el := fun i => .bl (p.cs (i + 1))) T.na_Scheme_cleansteal x7 (o7 _ _ hrl nrl) n4 (by show 12 < 1000; decide) (fl H7 p.cs _ o7 fun _ => in_cs) fun b7 H8 nb7 o8' x8 h8 => ?_)
  have o8 : ∀ c o, H c = some o → c ≠ x → H8 c = some o := fun c o h n => o8' _ _ (o7 _ _ h n) n
  dsimp only
  refine st_rowF T (v0 := .bl false) (el := fun i => .bl (p.bk (i + 1))) T.na_Scheme_writeback x8 (o8 _ _ hrl nrl) n4 (by show 13 < 1000; decide) (fl H8 p.bk _ o8 fun _ => in_bk) fun b8 H9 nb8 o9' x9 h9 => ?_
  have o9 : ∀ c o, H c = some o → c ≠ x → H9 c = some o := fun c o h n => o9' _ _ (o8 _ _ h n) n
  -- new, and kept
  have nx2 : ∀ c, H2 c = none → H1 c = none := fun c h => by
    cases hz : H1 c with
    | none => rfl
    | some o =>
      by_cases hc : c = x
      · rw [hc, x2] at h
        cases h
      · rw [o2' _ _ hz hc] at h
        cases h
  have nx3 : ∀ c, H3 c = none → H2 c = none := fun c h => by
    cases hz : H2 c with
    | none => rfl
    | some o =>
      by_cases hc : c = x
      · rw [hc, x3] at h
        cases h
      · rw [o3' _ _ hz hc] at h
        cases h
  have nx4 : ∀ c, H4 c = none → H3 c = none := fun c h => by
    cases hz : H3 c with
    | none => rfl
    | some o =>
      by_cases hc : c = x
      · rw [hc, x4] at h
        cases h
      · rw [o4' _ _ hz hc] at h
        cases h
  have nx5 : ∀ c, H5 c = none → H4 c = none := fun c h => by
    cases hz : H4 c with
    | none => rfl
    | some o =>
      by_cases hc : c = x
      · rw [hc, x5] at h
        cases h
      · rw [o5' _ _ hz hc] at h
        cases h
  have nx6 : ∀ c, H6 c = none → H5 c = none := fun c h => by
    cases hz : H5 c with
    | none => rfl
    | some o =>
      by_cases hc : c = x
      · rw [hc, x6] at h
        cases h
      · rw [o6' _ _ hz hc] at h
        cases h
  have nx7 : ∀ c, H7 c = none → H6 c = none := fun c h => by
    cases hz : H6 c with
    | none => rfl
    | some o =>
      by_cases hc : c = x
      · rw [hc, x7] at h
        cases h
      · rw [o7' _ _ hz hc] at h
        cases h
  have nx8 : ∀ c, H8 c = none → H7 c = none := fun c h => by
    cases hz : H7 c with
    | none => rfl
    | some o =>
      by_cases hc : c = x
      · rw [hc, x8] at h
        cases h
      · rw [o8' _ _ hz hc] at h
        cases h
  have m1 := f1 _ nb1
  have m2 := f1 _ (nx2 _ nb2)
  have m3 := f1 _ (nx2 _ (nx3 _ nb3))
  have m4 := f1 _ (nx2 _ (nx3 _ (nx4 _ nb4)))
  have m5 := f1 _ (nx2 _ (nx3 _ (nx4 _ (nx5 _ nb5))))
  have m6 := f1 _ (nx2 _ (nx3 _ (nx4 _ (nx5 _ (nx6 _ nb6)))))
  have m7 := f1 _ (nx2 _ (nx3 _ (nx4 _ (nx5 _ (nx6 _ (nx7 _ nb7))))))
  have m8 := f1 _ (nx2 _ (nx3 _ (nx4 _ (nx5 _ (nx6 _ (nx7 _ (nx8 _ nb8)))))))
  have r8 := o9' _ _ h8 m7.2
  have r7 := o9' _ _ (o8' _ _ h7 m6.2) m6.2
  have r6 := o9' _ _ (o8' _ _ (o7' _ _ h6 m5.2) m5.2) m5.2
  have r5 := o9' _ _ (o8' _ _ (o7' _ _ (o6' _ _ h5 m4.2) m4.2) m4.2) m4.2
  have r4 := o9' _ _ (o8' _ _ (o7' _ _ (o6' _ _ (o5' _ _ h4 m3.2) m3.2) m3.2) m3.2) m3.2
  have r3 := o9' _ _ (o8' _ _ (o7' _ _ (o6' _ _ (o5' _ _ (o4' _ _ h3 m2.2) m2.2) m2.2) m2.2) m2.2) m2.2
  have r2 := o9' _ _ (o8' _ _ (o7' _ _ (o6' _ _ (o5' _ _ (o4' _ _ (o3' _ _ h2 m1.2) m1.2) m1.2) m1.2) m1.2) m1.2) m1.2
  have rN : ∀ (F : Nat → Nat), F 0 = 0 → V.int 0 :: (List.range p.n).map (fun i => V.int (F (i + 1) : Nat)) = rowN (p.n + 1) F := fun F h => by
    have := row_cons (g := fun k : Nat => V.int (k : Int)) (n := p.n) (f := F)
    rw [h] at this
    exact this.symm
  have rB : ∀ (F : Nat → Bool), F 0 = false → V.bl false :: (List.range p.n).map (fun i => V.bl (F (i + 1))) = rowB (p.n + 1) F := fun F h => by
    have := row_cons (g := V.bl) (n := p.n) (f := F)
    rw [h] at this
    exact this.symm
  refine q ⟨x, dx, b1, b2, b3, b4, b5, b6, b7, b8⟩ H9 rfl ⟨⟨.str nm, ?_⟩, ?_, ?_, ?_, ?_, ?_, ?_, ?_, ?_⟩ ?_ o9
  · rw [x9]
    rfl
  · rw [r2, rN p.wr z1]
  · rw [r3, rN p.rd z2]
  · rw [r4, rN p.st z3]
  · rw [r5, rB p.gr z4]
  · rw [r6, rB p.cr z5]
  · rw [r7, rB p.gs z6]
  · rw [r8, rB p.cs z7]
  · rw [h9, rB p.bk z8]
  · intro b hb hbx
    unfold SR.dom at hb
    simp only [List.mem_cons, List.not_mem_nil, or_false] at hb
    rcases hb with rfl | rfl | rfl | rfl | rfl | rfl | rfl | rfl | rfl
    · exact absurd rfl hbx
    · exact m1.1
    · exact m2.1
    · exact m3.1
    · exact m4.1
    · exact m5.1
    · exact m6.1
    · exact m7.1
    · exact m8.1
end
end Cm
set_option maxHeartbeats 1000000
namespace Cm
open PySem PySem.Spec L2
section
variable {σ : L2.St} {H : Hp} {ta tb te : TE} {j : Nat} {vs : List Nat}
theorem lcG_rangeL {n : Nat} {lo : Int} (R : Nat → V → Hp → Prop) (hR : ∀ k v A B, Same A B → R k v A → R k v B) (hb : n ≤ 100000)
    (he : ∀ (i : Nat) H1, i < n → Same H H1 → ∀ Q : VK, (∀ v H2, Same H1 H2 → R i v (mi H2 H1) → Q v H2) → te ((wipe σ vs).set j (some (.int (lo + (i : Int))))) H1 Q)
    (hw : ∀ x, wipe ((wipe σ vs).set j (some x)) vs = wipe σ vs) {Q : VK}
    (q : LcQ H R n Q) (L : Addr) (hL : H L = none) :
    ∃ W : Nat → Nat → Hp → Prop, (∃ m, W 0 m (upd H L (.lst []))) ∧ ∀ i m H, W i m H →
      ((Itr lo n).stop i H ∧ Q (.ref L) H) ∨ ((Itr lo n).go i H ∧ ∃ Nx : Hp → Prop, (∀ H', Nx H' → ∃ m', m' < m ∧ W (i + 1) m' H') ∧ ∀ x H', (Itr lo n).yld i H x H' → (gName j) x (wipe σ vs) H' fun σ2 H2 => wipe σ2 vs = wipe σ vs ∧ tYes σ2 H2 fun b H3 =>
        if b = true then te σ2 H3 fun y H4 => ∃ acc, H4 L = some (.lst acc) ∧ acc.length < sizeLine ∧ Nx (upd H4 L (.lst (acc ++ [y]))) else Nx H3) := by
  refine lc_range (lo := lo) (n := n) (fun i H' => i ≤ n ∧ LcI H L R i H') ⟨Nat.zero_le _, LcI.start hL⟩ ?_ ?_
  · rintro i H1 hi ⟨_, p⟩
    refine ⟨hw _, a_yes _ ?_⟩
    refine iteT (he i H1 hi p.same _ fun v H2 s r => ?_)
    obtain ⟨acc, h1, h2, h3⟩ := p.step hL hR s r
    exact ⟨acc, h1, Nat.lt_of_lt_of_le (show acc.length < 100001 by omega) (by decide), hi, h3⟩
  · rintro H1 ⟨_, p⟩
    obtain ⟨⟨xs, e1, e2, e3, e4⟩, s⟩ := p
    exact q L xs H1 hL s e1 e2 e3 e4
theorem v_lcG2 {n lo : Nat} (R : Nat → V → Hp → Prop) (hR : ∀ k v A B, Same A B → R k v A → R k v B) (hl : Val ta σ H (.int (lo : Int))) (hn : Val tb σ H (.int ((lo + n : Nat) : Int))) (hb : lo + n ≤ 100000)
    (he : ∀ (i : Nat) H1, i < n → Same H H1 → ∀ Q : VK, (∀ v H2, Same H1 H2 → R i v (mi H2 H1) → Q v H2) → te ((wipe σ vs).set j (some (.int ((lo + i : Nat) : Int)))) H1 Q)
    (hw : ∀ x, wipe ((wipe σ vs).set j (some x)) vs = wipe σ vs) {Q : VK}
    (q : LcQ H R n Q) : tLc (iRng2 (tCons ta (tCons tb tNil))) (gName j) tYes te vs σ H Q := by
  refine hl _ (hn _ ⟨(lo : Int), ((lo + n : Nat) : Int), rfl, ⟨by omega, by omega, by omega, by omega⟩, ?_⟩)
  have e : (((lo + n : Nat) : Int) - (lo : Int)).toNat = n := by omega
  rw [e]
  refine lcG_rangeL R hR (by omega) (fun i H1 hi s Q' q' => ?_) hw q
  have e2 : (lo : Int) + (i : Int) = ((lo + i : Nat) : Int) := by omega
  rw [e2]
  exact he i H1 hi s Q' q'
end
/-! ### the lines of a protocol's text -/
variable {p : Pr} {nm : Str}
theorem dg_word {d : Nat} (h : d < 10) : WordOk (dg d) := by
  refine ⟨by rw [dg_tl h]; simp, fun c hc => ?_, by rw [dg_len h]; decide⟩
  rw [dg_tl h] at hc
  have : c = 48 + d := by simpa using hc
  omega
theorem name_word (h : NameOk nm) : WordOk nm := ⟨h.ne, fun c hc => by
  have := h.all c hc
  omega, by
  have := h.len
  omega⟩
def KW : List Str := ["protocol", "states", "lone", "shared", "own", "through", "state", "yes", "no"]
theorem kw_ok : ∀ x, x ∈ KW → WordOk x ∧ x.length ≤ 8 := by
  have k : ∀ x, x ∈ KW → (x.cps.toList ≠ [] ∧ (∀ c, c ∈ x.cps.toList → 33 ≤ c ∧ c ≤ 126) ∧ x.length ≤ 20) ∧ x.length ≤ 8 := by
    unfold KW
    decide +kernel
  exact k
theorem fl_len : ∀ x, x ∈ FL → x.length ≤ 10 := by
  unfold FL
  decide +kernel
theorem words_len {l : List Str} {b n : Nat} (h : ∀ x, x ∈ l → x.length ≤ b) (hn : l.length ≤ n) (hb : n * b + n ≤ 120) : (Txt.join " " l).length ≤ 120 := by
  refine Nat.le_trans (join_len _ _) ?_
  have h1 := sum_le (l := l.map (·.length)) (b := b) fun x hx => by
    obtain ⟨y, hy, rfl⟩ := List.mem_map.mp hx
    exact h y hy
  rw [List.length_map] at h1
  have e1 : (" " : Str).length = 1 := rfl
  rw [e1]
  have h2 : l.length * b ≤ n * b := Nat.mul_le_mul_right _ hn
  omega
theorem lines_ok (hn : NameOk nm) (ok : p.Ok) : LinesOk (lines nm p) := by
  have n4 := ok.n4
  have kw : ∀ x, x ∈ KW → WordOk x := fun x h => (kw_ok x h).1
  have two : ∀ x y : Str, x ∈ KW → WordOk y → y.length ≤ 12 → ([x, y] : List Str) ≠ [] ∧ [x, y].length ≤ 10 ∧ (∀ z, z ∈ [x, y] → WordOk z) ∧ (Txt.join " " [x, y]).length ≤ 120 := fun x y hx hy hl => by
    refine ⟨by simp, by show 2 ≤ 10; decide, fun z hz => ?_, words_len (b := 12) (n := 2) (fun z hz => ?_) (Nat.le_refl _) (by decide)⟩
    · simp only [List.mem_cons, List.not_mem_nil, or_false] at hz
      rcases hz with rfl | rfl
      · exact kw _ hx
      · exact hy
    · simp only [List.mem_cons, List.not_mem_nil, or_false] at hz
      rcases hz with rfl | rfl
      · have := (kw_ok _ hx).2
        omega
      · exact hl
  have dl : ∀ d, d < 10 → (dg d).length ≤ 12 := fun d h => by
    rw [dg_len h]
    decide
  refine ⟨by unfold lines; simp, ?_, fun l hl => ?_⟩
  · unfold lines
    rw [List.length_append, List.length_map, List.length_range]
    show 6 + p.n ≤ 20
    omega
  · unfold lines at hl
    rw [List.mem_append] at hl
    rcases hl with hl | hl
    · simp only [List.mem_cons, List.not_mem_nil, or_false] at hl
      have h1 := ok.lone1
      have h2 := ok.shared1
      have h3 := ok.own1
      rcases hl with rfl | rfl | rfl | rfl | rfl | rfl
      · exact two _ _ (by simp [KW]) (name_word hn) hn.len
      · exact two _ _ (by simp [KW]) (dg_word (by omega)) (dl _ (by omega))
      · exact two _ _ (by simp [KW]) (dg_word (by omega)) (dl _ (by omega))
      · exact two _ _ (by simp [KW]) (dg_word (by omega)) (dl _ (by omega))
      · exact two _ _ (by simp [KW]) (dg_word (by omega)) (dl _ (by omega))
      · cases p.thr
        · exact two _ _ (by simp [KW]) (kw _ (by simp [KW])) (by decide)
        · exact two _ _ (by simp [KW]) (kw _ (by simp [KW])) (by decide)
    · obtain ⟨i, hi, rfl⟩ := List.mem_map.mp hl
      have hi := List.mem_range.mp hi
      have h1 := ok.wr1 (i + 1)
      have h2 := ok.rd1 (i + 1)
      have h3 := ok.st1 (i + 1)
      have hF := flags_len (p := p) (i := i + 1)
      have wd : ∀ z, z ∈ rowWords p (i + 1) → WordOk z ∧ z.length ≤ 10 := fun z hz => by
        unfold rowWords at hz
        rw [List.mem_append] at hz
        rcases hz with hz | hz
        · simp only [List.mem_cons, List.not_mem_nil, or_false] at hz
          rcases hz with rfl | rfl | rfl | rfl | rfl
          · exact ⟨kw _ (by simp [KW]), by decide⟩
          · exact ⟨dg_word (by omega), by rw [dg_len (by omega)]; decide⟩
          · exact ⟨dg_word (by omega), by rw [dg_len (by omega)]; decide⟩
          · exact ⟨dg_word (by omega), by rw [dg_len (by omega)]; decide⟩
          · exact ⟨dg_word (by omega), by rw [dg_len (by omega)]; decide⟩
        · have := flags_sub z hz
          exact ⟨flag_ok z this, fl_len z this⟩
      have hlen : (rowWords p (i + 1)).length ≤ 10 := by
        unfold rowWords
        rw [List.length_append]
        show 5 + _ ≤ 10
        omega
      exact ⟨by simp, hlen, fun z hz => (wd z hz).1, words_len (b := 10) (n := 10) (fun z hz => (wd z hz).2) hlen (by decide)⟩
section
variable {e : En} (T : Tx e)
theorem st_st {t1 t2 : TS} {D : Ends} {σ σ' : L2.St} {H : Hp} (h : σ = σ') (q : tSeq t1 t2 D σ' H) : tSeq t1 t2 D σ H := by rw [h]; exact q
theorem e_make {σ : L2.St} {H : Hp} {C : Addr} {sp : Sp} {t : TA} {Q : VK} (h : t σ H fun vs H1 => ∀ x dx, H1 x = none → H1 dx = none → dx ≠ x → sp (.ref x :: (vs ++ [])) (upd (upd H1 dx (.own x)) x (.ins C dx [])) (fun v H2 => v = .non ∧ Q (.ref x) H2) C8.E0) : tMake C sp [] C8.E0 t σ H Q := h
theorem SPat.same {H H' : Hp} {a : Addr} {ls : List (List Str)} {ta wa : Nat → Addr} (h : SPat H a ls ta wa) (s : Same H H') : SPat H' a ls ta wa := ⟨s _ _ h.hd, fun i hi => s _ _ (h.ta i hi), fun i l hl => s _ _ (h.wa i l hl)⟩
theorem e_due {σ : L2.St} {H : Hp} {a : Addr} {ls : List (List Str)} {ta wa : Nat → Addr} {i : Nat} {x y : Str} {tl : TE} {Q : VK} (hl : Val tl σ H (.ref a)) (sp : SPat H a ls ta wa) (hi : ls[i]? = some [x, y])
    (q : ∀ (t : Addr) (H' : Hp), Same H H' → H' t = some (.tup [.int ((i + 1 : Nat) : Int), .ref (wa i)]) → Q (.ref t) H') : tCall (sp_due_line e) [] C8.E0 (tCons tl (tCons (tC (.int (i : Int))) (tCons (tC (.str x)) (tCons (tTup (tCons (tC (.int 2)) tNil)) tNil)))) σ H Q := by
  refine e_callx (e_cons (hl _ (e_cons (val_c _ (e_cons (val_c _ (e_cons (e_tup (arg_cons val_c arg_nil) (by show 1 ≤ 1000; decide) fun c hc => e_nil ?_))))))))
  have s1 := same_new (o := .tup [.int 2]) hc
  exact ⟨a, ls, ta, wa, i, x, [y], c, [2], rfl, sp.same s1, hi, SqT.of upd_same, by simp, fun t H2 s2 ht => q t H2 (s1.trans s2) ht⟩
theorem e_state {σ : L2.St} {H : Hp} {a : Addr} {ls : List (List Str)} {ta wa : Nat → Addr} {i d : Nat} {x : Str} {most : Int} {tl tm : TE} {Q : VK} (hl : Val tl σ H (.ref a)) (hm : Val tm σ H (.int most)) (sp : SPat H a ls ta wa) (hi : ls[i]? = some [x, dg d]) (h1 : 1 ≤ d ∧ d < 10) (h2 : (d : Int) ≤ most)
    (q : ∀ H' : Hp, Same H H' → Q (.int (d : Int)) H') : tCall (sp_read_state e) [] C8.E0 (tCons tl (tCons (tC (.int (i : Int))) (tCons (tC (.str x)) (tCons tm tNil)))) σ H Q :=
  v_call (arg_cons hl (arg_cons val_c (arg_cons val_c (arg_cons hm arg_nil)))) ⟨a, ls, ta, wa, i, x, d, most, rfl, sp, hi, h1.1, h1.2, h2, q⟩
include T
def RowR2 (p : Pr) (k : Nat) (v : V) (A : Hp) : Prop := ∃ t fl : Addr, v = .ref t ∧ A t = some (.tup [.int (p.wr (k + 1) : Nat), .int (p.rd (k + 1) : Nat), .int (p.st (k + 1) : Nat), .ref fl]) ∧ A fl = some (.tup ((flagsL p (k + 1)).map V.str))
theorem p_read_protocol (vs : List V) (H : Hp) (Q : VK) (E : XK) (h : sp_read_protocol e vs H Q E) : t_read_protocol e { nx := fun _ H' => Q .non H', rt := Q } (start N_read_protocol vs) H := by
  obtain ⟨nm, p, rfl, hn, ok, q⟩ := h
  have n4 := ok.n4
  have o1 := ok.lone1
  have o2 := ok.shared1
  have o3 := ok.own1
  have lk := lines_ok hn ok
  have L0 : (lines nm p)[0]? = some [("protocol" : Str), nm] := rfl
  have L1 : (lines nm p)[1]? = some [("states" : Str), dg p.n] := rfl
  have L2 : (lines nm p)[2]? = some [("lone" : Str), dg p.lone] := rfl
  have L3 : (lines nm p)[3]? = some [("shared" : Str), dg p.shared] := rfl
  have L4 : (lines nm p)[4]? = some [("own" : Str), dg p.own] := rfl
  have L5 : (lines nm p)[5]? = some [("through" : Str), if p.thr = true then ("yes" : Str) else ("no" : Str)] := rfl
  refine st_seq (st_asg (v_call (arg_cons (v_var rfl) arg_nil) ⟨lines nm p, rfl, lk, fun a ta wa H1 s1 sp1 => ?_⟩))
  dsimp only
  refine st_seq ?_
  refine e_due (i := 0) (v_var rfl) sp1 L0 fun t2 H2 s2 h2 => g_two h2 ?_
  have sp2 := sp1.same s2
  dsimp only
  refine st_seq (st_set (v_callP (v := .str nm) (arg_cons (v_var rfl) (arg_cons (v_ixL (z := 1) (v_var rfl) val_c (sp2.wa 0 _ L0) rfl) arg_nil)) fun Q' q' => ⟨_, nm, rfl, hn, q'⟩) ?_)
  dsimp only
  refine st_seq (st_asg (e_state (i := 1) (v_var rfl) val_c sp2 L1 (by omega) (by omega) fun H3 s3 => ?_))
  have sp3 := sp2.same s3
  dsimp only
  refine st_seq (st_asg (e_state (i := 2) (v_var rfl) (v_var rfl) sp3 L2 (by omega) (by omega) fun H4 s4 => ?_))
  have sp4 := sp3.same s4
  dsimp only
  refine st_seq (st_asg (e_state (i := 3) (v_var rfl) (v_var rfl) sp4 L3 (by omega) (by omega) fun H5 s5 => ?_))
  have sp5 := sp4.same s5
  dsimp only
  refine st_seq (st_asg (e_state (i := 4) (v_var rfl) (v_var rfl) sp5 L4 (by omega) (by omega) fun H6 s6 => ?_))
  have sp6 := sp5.same s6
  dsimp only
  refine st_seq ?_
  refine e_due (i := 5) (v_var rfl) sp6 L5 fun t7 H7 s7 h7 => g_two h7 ?_
  have sp7 := sp6.same s7
  dsimp only
  have s07 := s1.trans (s2.trans (s3.trans (s4.trans (s5.trans (s6.trans s7)))))
  refine st_seq (st_asg (e_op (e_callx (e_cons (v_var rfl _ (e_cons (v_ixL (z := 1) (v_var rfl) val_c (sp7.wa 5 _ L5) rfl _ (e_cons (e_tup (arg_cons val_c (arg_cons val_c arg_nil)) (by show 2 ≤ 1000; decide) fun c hc => e_nil ?_)))))))))
  have s8 := same_new (o := .tup [.str "yes", .str "no"]) hc
  refine ⟨_, _, c, ["yes", "no"], rfl, SqT.of upd_same, by cases p.thr <;> simp, ?_⟩
  refine val_c _ ⟨rfl, ?_⟩
  have et : decide (V.str (if p.thr = true then ("yes" : Str) else ("no" : Str)) = V.str "yes") = p.thr := by
    rw [dec_str]
    cases p.thr <;> decide
  rw [et]
  have sp8 := sp7.same s8
  have s08 := s07.trans s8
  generalize upd H7 c (.tup [.str "yes", .str "no"]) = H8 at *
  dsimp only
  refine st_seq (st_asg ?_)
  refine v_lcG2 (n := p.n) (lo := 1) (RowR2 p) (fun k v A B s ⟨t, fl, h1, h2, h3⟩ => ⟨t, fl, h1, s _ _ h2, s _ _ h3⟩) val_c (v_is (v_add (v_var rfl) val_c) (congrArg V.int (by omega))) (by omega) (fun i H9 hi s9 Q' q' => ?_) (fun _ => rfl) fun L xs H9 nL s9 hL len items _ => ?_
  · refine v_call (arg_cons (v_var rfl) (arg_cons (v_is (w := .int ((i + 1 : Nat) : Int)) (v_var rfl) (congrArg V.int (by omega))) (arg_cons (v_var rfl) arg_nil))) ⟨a, nm, p, ta, wa, i, rfl, sp8.same s9, ok, hi, fun t fl H10 s10 nt nfl ht hfl => ?_⟩
    exact q' _ _ s10 ⟨t, fl, rfl, mi_of ht nt, mi_of hfl nfl⟩
  · have h1 : ∀ k, ∃ r : Addr × Addr, k < p.n → xs[k]? = some (.ref r.1) ∧ H9 r.1 = some (.tup [.int (p.wr (k + 1) : Nat), .int (p.rd (k + 1) : Nat), .int (p.st (k + 1) : Nat), .ref r.2]) ∧ H9 r.2 = some (.tup ((flagsL p (k + 1)).map V.str)) := fun k => by
      by_cases hk : k < p.n
      · have e1 := List.getElem?_eq_getElem (l := xs) (i := k) (by omega)
        obtain ⟨t, fl, hv, h2, h3⟩ := items k _ e1
        exact ⟨(t, fl), fun _ => ⟨by rw [e1, hv], mi_le _ _ h2, mi_le _ _ h3⟩⟩
      · exact ⟨(0, 0), fun z => absurd z hk⟩
    obtain ⟨rr, hrr⟩ := Classical.skolem.mp h1
    have ex : xs = rowR p.n fun k => (rr k).1 := by
      apply List.ext_getElem?
      intro k
      by_cases hk : k < p.n
      · rw [(hrr k hk).1, row_get (g := V.ref) hk]
      · rw [List.getElem?_eq_none (by omega), List.getElem?_eq_none (by rw [row_len]; omega)]
    subst ex
    have sp9 := sp8.same s9
    dsimp only
    have vl := v_lenL (K := e.K) (ta := tVar 1) (σ := [some (.str (ptext nm p)), some (.ref a), some (.int ((5 + 1 : Nat) : Int)), some (.ref (wa 5)), some (.str nm), some (.int (p.n : Nat)), some (.int (p.lone : Nat)), some (.int (p.shared : Nat)), some (.int (p.own : Nat)), some (.bl p.thr), some (.ref L), none]) (v_var rfl) sp9.hd
    have ll : (lines nm p).length = 6 + p.n := by
      unfold lines
      rw [List.length_append, List.length_map, List.length_range]
      rfl
    rw [row_len, ll] at vl
    refine st_st (σ' := [some (.str (ptext nm p)), some (.ref a), some (.int ((5 + 1 : Nat) : Int)), some (.ref (wa 5)), some (.str nm), some (.int (p.n : Nat)), some (.int (p.lone : Nat)), some (.int (p.shared : Nat)), some (.int (p.own : Nat)), some (.bl p.thr), some (.ref L), none]) rfl ?_
    refine st_seq (st_no (a_gt vl (v_add val_c (v_var rfl)) (decide_eq_false (by omega))) (st_next ?_))
    dsimp only
    refine st_rt (e_make ?_)
    refine e_cons ?_
    refine v_var rfl _ ?_
    refine e_cons ?_
    refine e_tup (arg_cons (v_var rfl) (arg_cons (v_var rfl) (arg_cons (v_var rfl) (arg_cons (v_var rfl) arg_nil)))) (by show 4 ≤ 1000; decide) fun nt hnt => ?_
    refine e_cons ?_
    refine v_var rfl _ ?_
    refine e_cons ?_
    refine v_var rfl _ ?_
    refine e_nil fun x dx hx hdx hne => ?_
    have s10 := same_new (o := .tup [.int (p.n : Nat), .int (p.lone : Nat), .int (p.shared : Nat), .int (p.own : Nat)]) hnt
    have hn10 : upd H9 nt (.tup [.int (p.n : Nat), .int (p.lone : Nat), .int (p.shared : Nat), .int (p.own : Nat)]) nt = some (.tup [.int (p.n : Nat), .int (p.lone : Nat), .int (p.shared : Nat), .int (p.own : Nat)]) := upd_same
    generalize upd H9 nt (.tup [.int (p.n : Nat), .int (p.lone : Nat), .int (p.shared : Nat), .int (p.own : Nat)]) = H10 at *
    have s11 := new2 (o := .ins e.Scheme dx []) (u := .own x) hx hdx
    have s010 := s08.trans (s9.trans s10)
    refine ⟨x, dx, nm, nt, L, p, fun k => (rr k).1, fun k => (rr k).2, rfl, upd_same, ok, s11 _ _ hn10, s11 _ _ (s10 _ _ hL), fun i hi => ⟨s11 _ _ (s10 _ _ (hrr i hi).2.1), s11 _ _ (s10 _ _ (hrr i hi).2.2)⟩, fun r H12 hr sc new old => ⟨rfl, ?_⟩⟩
    have hx0 : H x = none := s010.free hx
    have s012 : Same H H12 := fun b o hb => old _ _ (s11 _ _ (s010 _ _ hb)) (ne_of_none hb hx0)
    have := q r H12 s012 sc fun b hb => ?_
    · rw [hr] at this
      exact this
    · by_cases hbx : b = x
      · rw [hbx]
        exact hx0
      · have h2 := new b hb hbx
        cases hz : H b with
        | none => rfl
        | some o =>
          rw [s11 _ _ (s010 _ _ hz)] at h2
          cases h2
end
end Cm
set_option maxHeartbeats 1000000
namespace Cm
open PySem PySem.Spec L2
section
variable {e : En}
theorem e_draws {σ : L2.St} {H : Hp} {tc tn tb : TE} {cell : Int} {count : Nat} {base : Int} {Q : VK} (hc : Val tc σ H (.int cell)) (hn : Val tn σ H (.int (count : Int))) (hb : Val tb σ H (.int base)) (h1 : count ≤ 1000) (h2 : 0 < base) (h3 : base < 2 ^ 100)
    (q : ∀ (a : Addr) (f : Nat → Int) (H' : Hp), H a = none → Same H H' → H' a = some (.lst (rowI count f)) → (∀ k, k < count → 0 ≤ f k ∧ f k < base) → Q (.ref a) H') : tCall (sp_law_draws e) [] C8.E0 (tCons tc (tCons tn (tCons tb tNil))) σ H Q :=
  v_call (arg_cons hc (arg_cons hn (arg_cons hb arg_nil))) ⟨cell, count, base, rfl, h1, h2, h3, q⟩
theorem cut1 {n : Nat} {f : Nat → Int} : cutV (rowI (n + 1) f) (some 1) none = rowI n fun k => f (k + 1) := by
  unfold cutV
  have e0 : HT.sIx (rowI (n + 1) f).length 0 (some 1) = 1 := by
    rw [row_len]
    unfold HT.sIx
    simp
  have e1 : HT.sIx (rowI (n + 1) f).length (rowI (n + 1) f).length none = n + 1 := by
    rw [row_len]
    unfold HT.sIx
    simp
  rw [e0, e1]
  apply List.ext_getElem?
  intro k
  by_cases hk : k < n
  · rw [List.getElem?_take_of_lt (by omega), List.getElem?_drop, row_get (g := V.int) (by omega), row_get (g := V.int) hk, Nat.add_comm]
  · rw [List.getElem?_eq_none (by rw [List.length_take, List.length_drop, row_len]; omega), List.getElem?_eq_none (by rw [row_len]; omega)]
theorem p_law_protocol (vs : List V) (H : Hp) (Q : VK) (E : XK) (h : sp_law_protocol e vs H Q E) : t_law_protocol e { nx := fun _ H' => Q .non H', rt := Q } (start N_law_protocol vs) H := by
  obtain ⟨cell, rfl, q1, q2⟩ := h
  refine st_seq (st_asg (e_draws (count := 22) (v_var rfl) val_c val_c (by decide) (by decide) (by decide) fun a f H1 n1 s1 h1 hb => ?_))
  dsimp only
  refine st_seq (st_set (v_mod (v_int (v_ixL (z := 0) (v_var rfl) val_c h1 (row_get (g := V.int) (by decide)))) val_c (by decide)) ?_)
  dsimp only
  refine st_seq (st_if (a_eqI (v_var rfl) val_c rfl) (fun _ => st_ret val_c (q1 H1 s1)) fun _ => st_next ?_)
  dsimp only
  refine st_rt ?_
  have hb' : ∀ k, k < 21 → 0 ≤ f (k + 1) ∧ f (k + 1) < 1000 := fun k hk => hb (k + 1) (by omega)
  have arg : ∀ (sp : Sp), (∀ (p : Addr) H2, Same H H2 → H2 p = some (.lst (rowI 21 fun k => f (k + 1))) → sp ([.ref p] ++ []) H2 Q C8.E0) → tCall sp [] C8.E0 (tCons (tSl (rSlL e.K) (tVar 1) (tPart (tC (.int 1))) tNoPart) tNil) [some (.int cell), some (.ref a), some (.int (f 0 % 8))] H1 Q := fun sp hs => by
    refine e_callx (e_cons (e_slice (v_var rfl) (SqL.of h1) po_c po_n fun p hp => e_nil ?_))
    rw [cut1]
    exact hs p _ (s1.trans (same_new hp)) upd_same
  refine e_if (a_lt (v_var rfl) val_c rfl) (fun _ => ?_) fun _ => ?_
  · exact arg _ fun p H2 s2 hp => ⟨p, _, rfl, hp, hb', fun nm pr H3 hn hk s3 => q2 nm pr H3 hn hk (s2.trans s3)⟩
  · exact arg _ fun p H2 s2 hp => ⟨p, _, rfl, hp, hb', fun nm pr H3 hn hk s3 => q2 nm pr H3 hn hk (s2.trans s3)⟩
theorem kinds {i : Int} (h : 0 ≤ i ∧ i < 8) : ∃ k : Kd, atI [V.str "load", .str "load", .str "load", .str "store", .str "store", .str "store", .str "store", .str "leave"] i = some (.str (kdS k)) := by
  have h8 : i = 0 ∨ i = 1 ∨ i = 2 ∨ i = 3 ∨ i = 4 ∨ i = 5 ∨ i = 6 ∨ i = 7 := by omega
  rcases h8 with rfl | rfl | rfl | rfl | rfl | rfl | rfl | rfl
  · exact ⟨.load, rfl⟩
  · exact ⟨.load, rfl⟩
  · exact ⟨.load, rfl⟩
  · exact ⟨.store, rfl⟩
  · exact ⟨.store, rfl⟩
  · exact ⟨.store, rfl⟩
  · exact ⟨.store, rfl⟩
  · exact ⟨.leave, rfl⟩
theorem p_law_accesses (vs : List V) (H : Hp) (Q : VK) (E : XK) (h : sp_law_accesses e vs H Q E) : t_law_accesses e { nx := fun _ H' => Q .non H', rt := Q } (start N_law_accesses vs) H := by
  obtain ⟨cell, many, nl, m, nf, count, words, rfl, hm, hnl, m0, hnf, w0, w1, q⟩ := h
  have v2 : ∀ (σ : L2.St), σ[1]? = some (some (.int (many : Int))) → Val (tOp (rI CMul fun i j => .int (i * j)) (tC (.int 2)) (tVar 1)) σ H (.int ((2 * many : Nat) : Int)) := fun σ h => v_is (v_mul val_c (v_var h) (.inl ⟨by decide, by decide⟩)) (congrArg V.int (by omega))
  refine st_seq (st_asg (e_draws (count := 2 * many) (base := 1 * 2 ^ 68) (v_var rfl) (v2 _ rfl) (v_shl val_c val_c ⟨by decide, by decide, by decide⟩) (by omega) (by decide) (by decide) fun a f H1 n1 s1 h1 hb => ?_))
  dsimp only
  refine st_seq (st_asg (e_lst arg_nil (by show 0 ≤ 1000; decide) fun L nL => ?_))
  dsimp only
  have sL := same_new (o := .lst []) nL
  have nL0 : H L = none := s1.free nL
  refine st_seq (st_forR (n := many) (v_var rfl) (by omega) (fun i σ H' => ∃ z6 z7 z8, σ = [some (.int cell), some (.int (many : Int)), some (.ref nl), some (.int (words : Int)), some (.ref a), some (.ref L), z6, z7, z8] ∧ Same H1 H' ∧ ∃ (ta : Nat → Addr) (ac : Nat → Acc), H' L = some (.lst (rowR i ta)) ∧
    ∀ j, j < i → H' (ta j) = some (.tup (accV (ac j))) ∧ (ac j).Ok count words ∧ H (ta j) = none) ⟨_, _, _, rfl, sL, fun _ => 0, fun _ => ⟨.load, 0, 0, 0, 0⟩, upd_same, fun j hj => absurd hj (Nat.not_lt_zero _)⟩ ?_ ?_)
  · rintro i σ H2 hi ⟨z6, z7, z8, rfl, s2, ta, ac, l2, items⟩
    have h2 := s2 _ _ h1
    refine st_seq (st_set (v_ixL (z := 2 * i) (v_var rfl) (v_is (v_mul val_c (v_var rfl) (.inl ⟨by decide, by decide⟩)) (congrArg V.int (by omega))) h2 (row_get (g := V.int) (by omega))) ?_)
    dsimp only
    generalize hu : f (2 * i) = u
    obtain ⟨kd, hkd⟩ := kinds (i := u % 8) ⟨Int.emod_nonneg _ (by decide), Int.emod_lt_of_pos _ (by decide)⟩
    refine st_seq (st_asg (e_op (e_lst (arg_cons val_c (arg_cons val_c (arg_cons val_c (arg_cons val_c (arg_cons val_c (arg_cons val_c (arg_cons val_c (arg_cons val_c arg_nil)))))))) (by show 8 ≤ 1000; decide) fun p hp => ?_)))
    have s3 := s2.trans (same_new (o := .lst [V.str "load", .str "load", .str "load", .str "store", .str "store", .str "store", .str "store", .str "leave"]) hp)
    have l3 := same_new (o := .lst [V.str "load", .str "load", .str "load", .str "store", .str "store", .str "store", .str "store", .str "leave"]) hp _ _ l2
    have it3 : ∀ j, j < i → upd H2 p (.lst [V.str "load", .str "load", .str "load", .str "store", .str "store", .str "store", .str "store", .str "leave"]) (ta j) = some (.tup (accV (ac j))) := fun j hj => same_new hp _ _ (items j hj).1
    have hp3 : upd H2 p (.lst [V.str "load", .str "load", .str "load", .str "store", .str "store", .str "store", .str "store", .str "leave"]) p = some (.lst [V.str "load", .str "load", .str "load", .str "store", .str "store", .str "store", .str "store", .str "leave"]) := upd_same
    generalize upd H2 p (.lst [V.str "load", .str "load", .str "load", .str "store", .str "store", .str "store", .str "store", .str "leave"]) = H3 at *
    refine v_mod (v_int (v_var rfl)) val_c (by decide) _ ⟨p, _, _, _, rfl, rfl, SqL.of hp3, hkd, ?_⟩
    dsimp only
    have hnl3 := s3 _ _ (s1 _ _ hnl)
    have h3 := s3 _ _ h1
    refine st_append (v_var rfl) l3 ?_
    have hlen := v_lenL (K := e.K) (ta := tVar 2) (σ := [some (.int cell), some (.int (many : Int)), some (.ref nl), some (.int (words : Int)), some (.ref a), some (.ref L), some (.int (i : Int)), some (.int u), some (.str (kdS kd))]) (v_var rfl) hnl3
    rw [row_len] at hlen
    have cc : 0 ≤ u / 8 % (m : Int) ∧ u / 8 % (m : Int) < m := ⟨Int.emod_nonneg _ (by omega), Int.emod_lt_of_pos _ (by omega)⟩
    have ww : 0 ≤ u / 64 % (words : Int) ∧ u / 64 % (words : Int) < words := ⟨Int.emod_nonneg _ (by omega), Int.emod_lt_of_pos _ (by omega)⟩
    have vv : 0 ≤ u / 512 % 256 ∧ u / 512 % 256 < 256 := ⟨Int.emod_nonneg _ (by decide), Int.emod_lt_of_pos _ (by decide)⟩
    obtain ⟨c, hc⟩ : ∃ c : Nat, u / 8 % (m : Int) = (c : Int) := ⟨(u / 8 % (m : Int)).toNat, by omega⟩
    obtain ⟨w, hw⟩ : ∃ w : Nat, u / 64 % (words : Int) = (w : Int) := ⟨(u / 64 % (words : Int)).toNat, by omega⟩
    obtain ⟨cv, hcv⟩ : ∃ cv : Nat, u / 512 % 256 = (cv : Int) := ⟨(u / 512 % 256).toNat, by omega⟩
    refine e_tupx (e_cons (v_var rfl _ ?_))
    have i1 : Val (tOp (rI (fun _ j => 0 < j) fun i j => .int (i % j)) (tCB rInt1 (tCons (tOp (rI CDiv fun i j => .int (i / j)) (tVar 7) (tC (.int 8))) tNil)) (tCB (rLenSeq e.K) (tCons (tVar 2) tNil))) [some (.int cell), some (.int (many : Int)), some (.ref nl), some (.int (words : Int)), some (.ref a), some (.ref L), some (.int (i : Int)), some (.int u), some (.str (kdS kd))] H3 (.int (c : Int)) := v_is (v_mod (v_int (v_div (v_var rfl) val_c ⟨by decide, by decide⟩)) hlen (by omega)) (congrArg V.int hc)
    refine e_cons (v_ixL (e := e) (ta := tVar 2) (v_var rfl) i1 hnl3 (row_get (g := fun k : Nat => V.int (k : Int)) (show c < m by omega)) _ ?_)
    refine e_cons (v_is (v_mod (v_int (v_div (v_var rfl) val_c ⟨by decide, by decide⟩)) (v_var rfl) (show (0 : Int) < (words : Int) by omega)) (congrArg V.int hw) _ ?_)
    refine e_cons (v_is (v_mod (v_int (v_div (v_var rfl) val_c ⟨by decide, by decide⟩)) val_c (by decide)) (congrArg V.int hcv) _ ?_)
    refine e_cons (e_callx (e_cons ?_))
    refine v_ixL (z := 2 * i + 1) (v_var rfl) (v_is (v_add (v_mul val_c (v_var rfl) (.inl ⟨by decide, by decide⟩)) val_c) (congrArg V.int (by omega))) h3 (row_get (g := V.int) (by omega)) _ ?_
    refine e_cons (v_shl val_c val_c ⟨by decide, by decide, by decide⟩ _ (e_nil ?_))
    refine ⟨f (2 * i + 1), 1 * 2 ^ 64, rfl, by decide, by decide, fun z H4 z0 z1 s4 => e_nil ⟨by show 5 ≤ sizeLine; decide, fun t nt => ?_⟩⟩
    have s5 := same_new (o := .tup [.str (kdS kd), .int (nf c : Int), .int (w : Int), .int (cv : Int), .int z]) nt
    have s35 := s4.trans s5
    have t5 : upd H4 t (.tup [.str (kdS kd), .int (nf c : Int), .int (w : Int), .int (cv : Int), .int z]) t = some (.tup (accV ⟨kd, nf c, w, cv, z⟩)) := upd_same
    have l5 := s35 _ _ l3
    have tL : ∀ (b : Addr) (G : Hp) xs ys, G b = some (.tup xs) → G L = some (.lst ys) → b ≠ L := fun b G xs ys h1 h2 e => by
      rw [e, h2] at h1
      cases h1
    have nt0 : H t = none := s1.free (s3.free (s4.free nt))
    generalize upd H4 t (.tup [.str (kdS kd), .int (nf c : Int), .int (w : Int), .int (cv : Int), .int z]) = H5 at *
    refine ⟨L, _, _, rfl, rfl, l5, by rw [row_len]; exact Nat.lt_of_lt_of_le (show i < 1000 by omega) (by decide), _, _, _, rfl, fun b o hb => ?_, fset ta i t, fset ac i ⟨kd, nf c, w, cv, z⟩, ?_, fun j hj => ?_⟩
    · rw [upd_ne (ne_of_none hb nL)]
      exact s35 _ _ (s3 _ _ hb)
    · rw [upd_same]
      exact congrArg (fun y => some (HO.lst y)) (row_put (g := V.ref)).symm
    · by_cases hji : j = i
      · subst hji
        rw [fset_same, fset_same, upd_ne (tL _ _ _ _ t5 l5)]
        exact ⟨t5, ⟨hnf c (by omega), by show w < words; omega, by show cv < 256; omega, z0, by
          have : (1 * 2 ^ 64 : Int) = 2 ^ 64 := by decide
          show z < 2 ^ 64
          omega⟩, nt0⟩
      · rw [fset_ne hji, fset_ne hji]
        have h5 := s35 _ _ (it3 j (by omega))
        exact ⟨by rw [upd_ne (tL _ _ _ _ h5 l5)]; exact h5, (items j (by omega)).2⟩
  · rintro σ H2 ⟨z6, z7, z8, rfl, s2, ta, ac, l2, items⟩
    dsimp only
    exact st_ret (v_var rfl) (q L ta ac H2 nL0 (s1.trans s2) l2 items)
end
end Cm
set_option maxHeartbeats 1000000
namespace Cm
open PySem PySem.Spec L2
section
variable {σ : L2.St} {H : Hp} {ta tb te : TE} {p : Pr} {nm : Str}
theorem v_intS {d : Nat} (h : Val ta σ H (.str (dg d))) (hd : d < 10) : Val (tCB rIntStr (tCons ta tNil)) σ H (.int (d : Int)) := fun Q q => h _ ⟨dg d, d, rfl, dg_int hd, by rw [dg_len hd]; decide, q⟩
/-- the words of line k -/
def wd (nm : Str) (p : Pr) (k : Nat) : List Str := (lines nm p).getD k []
theorem wd_at {k : Nat} {l : List Str} (h : (lines nm p)[k]? = some l) : wd nm p k = l := by
  unfold wd
  rw [List.getD_eq_getElem?_getD, h]
  rfl
theorem ll_len : (lines nm p).length = 6 + p.n := by
  unfold lines
  rw [List.length_append, List.length_map, List.length_range]
  rfl
theorem cutR {n m : Nat} {f : Nat → Addr} : cutV (rowR (m + n) f) (some (m : Int)) none = rowR n fun k => f (m + k) := by
  unfold cutV
  have e0 : HT.sIx (rowR (m + n) f).length 0 (some (m : Int)) = m := by
    rw [row_len]
    unfold HT.sIx
    simp
    try omega
  have e1 : HT.sIx (rowR (m + n) f).length (rowR (m + n) f).length none = m + n := by
    rw [row_len]
    unfold HT.sIx
    simp
  rw [e0, e1]
  apply List.ext_getElem?
  intro k
  by_cases hk : k < n
  · rw [List.getElem?_take_of_lt (by omega), List.getElem?_drop, row_get (g := V.ref) (by omega), row_get (g := V.ref) hk]
  · rw [List.getElem?_eq_none (by rw [List.length_take, List.length_drop, row_len]; omega), List.getElem?_eq_none (by rw [row_len]; omega)]
def RowT (p : Pr) (k : Nat) (v : V) (A : Hp) : Prop := ∃ t fl : Addr, v = .ref t ∧ A t = some (.tup [.int (p.wr (k + 1) : Nat), .int (p.rd (k + 1) : Nat), .int (p.st (k + 1) : Nat), .ref fl]) ∧ A fl = some (.lst ((flagsL p (k + 1)).map V.str))
end
section
variable {e : En}
theorem p_law_table (vs : List V) (H : Hp) (Q : VK) (E : XK) (h : sp_law_table e vs H Q E) : t_law_table e { nx := fun _ H' => Q .non H', rt := Q } (start N_law_table vs) H := by
  obtain ⟨nm, p, rfl, hn, ok, q⟩ := h
  have n4 := ok.n4
  have o1 := ok.lone1
  have o2 := ok.shared1
  have o3 := ok.own1
  have lk := lines_ok hn ok
  have llen : ∀ i l, (lines nm p)[i]? = some l → l ≠ [] ∧ l.length ≤ 10 ∧ (∀ x, x ∈ l → WordOk x) ∧ (Txt.join " " l).length ≤ 120 := fun i l h => lk.2.2 l (List.mem_of_getElem? h)
  have tlen : (ptext nm p).length ≤ 100000 := by
    refine Nat.le_trans (join_len _ _) ?_
    rw [List.map_map, List.length_map]
    have h1 := sum_le (l := (lines nm p).map ((fun x => x.length) ∘ Txt.join " ")) (b := 120) fun x hx => by
      obtain ⟨l, hl, rfl⟩ := List.mem_map.mp hx
      exact (lk.2.2 l hl).2.2.2
    rw [List.length_map] at h1
    have h2 := lk.2.1
    have e1 : ("\n" : Str).length = 1 := rfl
    rw [e1]
    omega
  have cut : Txt.split (ptext nm p) "\n" = (lines nm p).map (Txt.join " ") := cut_lines lk
  refine st_seq (st_asg (lc_over ?_))
  refine e_split (x := ptext nm p) (y := "\n") (v_var rfl) val_c rfl tlen fun a ha => ?_
  rw [cut]
  have s1 := same_new (o := .lst (((lines nm p).map (Txt.join " ")).map V.str)) ha
  have h1 : upd H a (.lst (((lines nm p).map (Txt.join " ")).map V.str)) a = some (.lst (((lines nm p).map (Txt.join " ")).map V.str)) := upd_same
  generalize upd H a (.lst (((lines nm p).map (Txt.join " ")).map V.str)) = H1 at *
  refine v_lcGL (K := e.K) (a := a) (ys := ((lines nm p).map (Txt.join " ")).map V.str) (RowR fun k => (wd nm p k).map V.str) RowR.mono val_c (SqL.of h1) (by rw [List.length_map, List.length_map, ll_len]; omega) (fun i y H2 hy s2 Q' q' => ?_) (fun _ => rfl) fun W xs H2 nW s2 hW len items _ => ?_
  · rw [List.getElem?_map, List.getElem?_map] at hy
    obtain ⟨sl, hsl, rfl⟩ := Option.map_eq_some_iff.mp hy
    obtain ⟨l, hl, rfl⟩ := Option.map_eq_some_iff.mp hsl
    obtain ⟨l1, l2, l3, l4⟩ := llen i l hl
    refine e_split (x := Txt.join " " l) (y := " ") (v_var rfl) val_c rfl (by omega) fun w hw => q' _ _ (same_new hw) ⟨w, rfl, mi_of ?_ hw⟩
    rw [upd_same, cut_words l1 l3]
    show _ = some (HO.lst ((wd nm p i).map V.str))
    rw [wd_at hl]
  rw [List.length_map, List.length_map, ll_len] at len
  obtain ⟨wk, rfl, hwk⟩ := refs_of (n := 6 + p.n) (P := fun k a => (mi H2 (upd H1 W (.lst []))) a = some (.lst ((wd nm p k).map V.str))) len (fun k v hv => items k v hv)
  have hwk2 : ∀ k, k < 6 + p.n → H2 (wk k) = some (.lst ((wd nm p k).map V.str)) := fun k hk => mi_le _ _ (hwk k hk).2
  have s02 := s1.trans s2
  clear items hwk
  dsimp only
  -- p = {..}
  refine st_seq (st_asg fun d hd => ?_)
  have sD := same_new (o := .dK []) hd
  have hd1 : upd H2 d (.dK []) d = some (.dK []) := upd_same
  have nd : H d = none := s02.free hd
  have wD : ∀ k, k < 6 + p.n → upd H2 d (.dK []) (wk k) = some (.lst ((wd nm p k).map V.str)) := fun k hk => sD _ _ (hwk2 k hk)
  have hWD := sD _ _ hW
  have s03 := s02.trans sD
  generalize upd H2 d (.dK []) = H3 at *
  have vw : ∀ (k i : Nat) (x : Str) (σ : L2.St) (H' : Hp), Same H3 H' → σ[1]? = some (some (.ref W)) → k < 6 + p.n → (wd nm p k)[i]? = some x → Val (tOp (rIxL e.K) (tOp (rIxL e.K) (tVar 1) (tC (.int (k : Int)))) (tC (.int (i : Int)))) σ H' (.str x) := fun k i x σ H' s h1 hk hx =>
    v_ixL (v_ixL (v_var h1) val_c (s _ _ hWD) (row_get (g := V.ref) hk)) val_c (s _ _ (wD k hk)) (by rw [List.getElem?_map, hx]; rfl)
  have L2 : wd nm p 2 = [("lone" : Str), dg p.lone] := rfl
  have L3 : wd nm p 3 = [("shared" : Str), dg p.shared] := rfl
  have L4 : wd nm p 4 = [("own" : Str), dg p.own] := rfl
  have L5 : wd nm p 5 = [("through" : Str), if p.thr = true then ("yes" : Str) else ("no" : Str)] := rfl
  refine val_c _ (v_intS (vw 2 1 _ _ _ (fun _ _ z => z) rfl (by omega) (by rw [L2]; rfl)) (by omega) _ ?_)
  refine val_c _ (v_intS (vw 3 1 _ _ _ (fun _ _ z => z) rfl (by omega) (by rw [L3]; rfl)) (by omega) _ ?_)
  refine val_c _ (v_intS (vw 4 1 _ _ _ (fun _ _ z => z) rfl (by omega) (by rw [L4]; rfl)) (by omega) _ ?_)
  refine val_c _ (vw 5 1 _ _ _ (fun _ _ z => z) rfl (by omega) (by rw [L5]; rfl) _ (val_c _ ⟨rfl, ?_⟩))
  have et : decide (V.str (if p.thr = true then ("yes" : Str) else ("no" : Str)) = V.str "yes") = p.thr := by
    rw [dec_str]
    cases p.thr <;> decide
  rw [et]
  refine ⟨hd1, [(.inr "lone", .int (p.lone : Nat)), (.inr "shared", .int (p.shared : Nat)), (.inr "own", .int (p.own : Nat)), (.inr "through", .bl p.thr)], rfl, by show 4 ≤ 15; decide, ?_⟩
  have em : mergeK [] [(.inr "lone", .int (p.lone : Nat)), (.inr "shared", .int (p.shared : Nat)), (.inr "own", .int (p.own : Nat)), (.inr "through", .bl p.thr)] = [((.inr "lone" : Key), V.int (p.lone : Nat)), (.inr "shared", .int (p.shared : Nat)), (.inr "own", .int (p.own : Nat)), (.inr "through", .bl p.thr)] := rfl
  rw [em]
  have hWd : W ≠ d := fun z => by
    rw [z, hd1] at hWD
    cases hWD
  have nwd : ∀ k, k < 6 + p.n → wk k ≠ d := fun k hk z => by
    have := wD k hk
    rw [z, hd1] at this
    cases this
  have k4 : ∀ b o, H b = some o → (upd H3 d (.dK [((.inr "lone" : Key), V.int (p.lone : Nat)), (.inr "shared", .int (p.shared : Nat)), (.inr "own", .int (p.own : Nat)), (.inr "through", .bl p.thr)])) b = some o := fun b o hb => by
    rw [upd_ne (ne_of_none hb nd)]
    exact s03 _ _ hb
  have W4 : (upd H3 d (.dK [((.inr "lone" : Key), V.int (p.lone : Nat)), (.inr "shared", .int (p.shared : Nat)), (.inr "own", .int (p.own : Nat)), (.inr "through", .bl p.thr)])) W = some (.lst (rowR (6 + p.n) wk)) := by
    rw [upd_ne hWd]
    exact hWD
  have w4 : ∀ k, k < 6 + p.n → (upd H3 d (.dK [((.inr "lone" : Key), V.int (p.lone : Nat)), (.inr "shared", .int (p.shared : Nat)), (.inr "own", .int (p.own : Nat)), (.inr "through", .bl p.thr)])) (wk k) = some (.lst ((wd nm p k).map V.str)) := fun k hk => by
    rw [upd_ne (nwd k hk)]
    exact wD k hk
  have d4 : (upd H3 d (.dK [((.inr "lone" : Key), V.int (p.lone : Nat)), (.inr "shared", .int (p.shared : Nat)), (.inr "own", .int (p.own : Nat)), (.inr "through", .bl p.thr)])) d = some (.dK [((.inr "lone" : Key), V.int (p.lone : Nat)), (.inr "shared", .int (p.shared : Nat)), (.inr "own", .int (p.own : Nat)), (.inr "through", .bl p.thr)]) := upd_same
  generalize upd H3 d (.dK [((.inr "lone" : Key), V.int (p.lone : Nat)), (.inr "shared", .int (p.shared : Nat)), (.inr "own", .int (p.own : Nat)), (.inr "through", .bl p.thr)]) = H4 at *
  dsimp only
  -- p["rows"] = ..
  refine st_seq ?_
  show (tOp rCat _ _) _ H4 _
  refine e_op ?_
  refine e_lstx (e_cons (e_tupx (e_cons (val_c _ (e_cons (val_c _ (e_cons (val_c _ (e_cons ?_)))))))))
  refine e_lst arg_nil (by show 0 ≤ 1000; decide) fun F0 nF0 => ?_
  have s5 := same_new (o := .lst []) nF0
  refine e_nil ⟨by show 4 ≤ sizeLine; decide, fun R0 nR0 => e_nil ⟨by show 1 ≤ sizeLine; decide, fun L0 nL0 => ?_⟩⟩
  have s6 := same_new (o := .tup [.int 0, .int 0, .int 0, .ref F0]) nR0
  have s7 := same_new (o := .lst [.ref R0]) nL0
  have hF0 := s7 _ _ (s6 _ _ (upd_same (H := H4) (a := F0) (o := .lst [])))
  have hR0 := s7 _ _ (upd_same (H := upd H4 F0 (.lst [])) (a := R0) (o := .tup [.int 0, .int 0, .int 0, .ref F0]))
  have hL0 := upd_same (H := upd (upd H4 F0 (.lst [])) R0 (.tup [.int 0, .int 0, .int 0, .ref F0])) (a := L0) (o := .lst [.ref R0])
  have s47 := s5.trans (s6.trans s7)
  have nF0' : H F0 = none := by
    cases hz : H F0 with
    | none => rfl
    | some o =>
      rw [k4 _ _ hz] at nF0
      cases nF0
  have nR0' : H R0 = none := by
    cases hz : H R0 with
    | none => rfl
    | some o =>
      rw [s5 _ _ (k4 _ _ hz)] at nR0
      cases nR0
  generalize upd (upd (upd H4 F0 (.lst [])) R0 (.tup [.int 0, .int 0, .int 0, .ref F0])) L0 (.lst [.ref R0]) = H5 at *
  refine lc_over ?_
  refine e_slice (v_var rfl) (SqL.of (s47 _ _ W4)) po_c po_n fun sl nsl => ?_
  have ec : cutV (rowR (6 + p.n) wk) (some 6) none = rowR p.n fun k => wk (6 + k) := cutR (m := 6)
  show tLc _ _ _ _ _ _ (upd H5 sl (.lst (cutV (rowR (6 + p.n) wk) (some 6) none))) _
  rw [ec]
  have s8 := same_new (o := .lst (rowR p.n fun k => wk (6 + k))) nsl
  have hsl : upd H5 sl (.lst (rowR p.n fun k => wk (6 + k))) sl = some (.lst (rowR p.n fun k => wk (6 + k))) := upd_same
  have s48 := s47.trans s8
  have hF1 := s8 _ _ hF0
  have hR1 := s8 _ _ hR0
  have hL1 := s8 _ _ hL0
  generalize upd H5 sl (.lst (rowR p.n fun k => wk (6 + k))) = H6 at *
  refine v_lcGL (K := e.K) (a := sl) (ys := rowR p.n fun k => wk (6 + k)) (RowT p) (fun k v A B s ⟨t, fl, h1, h2, h3⟩ => ⟨t, fl, h1, s _ _ h2, s _ _ h3⟩) val_c (SqL.of hsl) (by rw [row_len]; omega) (fun i y H7 hy s7' Q' q' => ?_) (fun _ => rfl) fun L xs H7 nL s7' hL len2 items _ => ?_
  · have hi : i < p.n := by
      have := (List.getElem?_eq_some_iff.mp hy).1
      rw [row_len] at this
      exact this
    rw [row_get (g := V.ref) hi] at hy
    obtain rfl := Option.some.inj hy
    have ew : wd nm p (6 + i) = rowWords p (i + 1) := wd_at (line_row hi)
    have hw7 : H7 (wk (6 + i)) = some (.lst ((rowWords p (i + 1)).map V.str)) := by
      rw [← ew]
      exact s7' _ _ (s48 _ _ (w4 _ (by omega)))
    have h1 := ok.wr1 (i + 1)
    have h2 := ok.rd1 (i + 1)
    have h3 := ok.st1 (i + 1)
    refine e_tupx (e_cons (v_intS (v_ixL (z := 2) (v_var rfl) val_c hw7 rfl) (by omega) _ ?_))
    refine e_cons (v_intS (v_ixL (z := 3) (v_var rfl) val_c hw7 rfl) (by omega) _ ?_)
    refine e_cons (v_intS (v_ixL (z := 4) (v_var rfl) val_c hw7 rfl) (by omega) _ ?_)
    refine e_cons (e_slice (v_var rfl) (SqL.of hw7) po_c po_n fun fl nfl => ?_)
    rw [cut5]
    refine e_nil ⟨by show 4 ≤ sizeLine; decide, fun t nt => ?_⟩
    have s9 := same_new (o := .lst ((flagsL p (i + 1)).map V.str)) nfl
    have s10 := same_new (o := .tup [.int (p.wr (i + 1) : Nat), .int (p.rd (i + 1) : Nat), .int (p.st (i + 1) : Nat), .ref fl]) nt
    exact q' _ _ (s9.trans s10) ⟨t, fl, rfl, mi_of upd_same (s9.free nt), mi_of (s10 _ _ upd_same) nfl⟩
  rw [row_len] at len2
  have h1' : ∀ k, ∃ r : Addr × Addr, k < p.n → xs[k]? = some (.ref r.1) ∧ H7 r.1 = some (.tup [.int (p.wr (k + 1) : Nat), .int (p.rd (k + 1) : Nat), .int (p.st (k + 1) : Nat), .ref r.2]) ∧ H7 r.2 = some (.lst ((flagsL p (k + 1)).map V.str)) ∧ H6 r.1 = none ∧ H6 r.2 = none := fun k => by
    by_cases hk : k < p.n
    · have e1 := List.getElem?_eq_getElem (l := xs) (i := k) (by omega)
      obtain ⟨t, fl, hv, h2, h3⟩ := items k _ e1
      have un : ∀ b o, mi H7 (upd H6 L (.lst [])) b = some o → H6 b = none := fun b o hb => by
        have h4 := (mi_some hb).2
        have n : b ≠ L := fun y => by rw [y, upd_same] at h4; cases h4
        rw [upd_ne n] at h4
        exact h4
      exact ⟨(t, fl), fun _ => ⟨by rw [e1, hv], mi_le _ _ h2, mi_le _ _ h3, un _ _ h2, un _ _ h3⟩⟩
    · exact ⟨(0, 0), fun z => absurd z hk⟩
  obtain ⟨rr, hrr⟩ := Classical.skolem.mp h1'
  have n6 : ∀ b, H6 b = none → H b = none := fun b hb => by
    cases hz : H b with
    | none => rfl
    | some o =>
      rw [s48 _ _ (k4 _ _ hz)] at hb
      cases hb
  let ra : Nat → Addr := fun k => match k with
    | 0 => R0
    | k + 1 => (rr k).1
  let fa : Nat → Addr := fun k => match k with
    | 0 => F0
    | k + 1 => (rr k).2
  have exs : [V.ref R0] ++ xs = rowR (p.n + 1) ra := by
    apply List.ext_getElem?
    intro k
    cases k with
    | zero =>
      rw [row_get (g := V.ref) (by omega)]
      rfl
    | succ k =>
      by_cases hk : k < p.n
      · rw [row_get (g := V.ref) (by omega)]
        exact (hrr k hk).1
      · rw [List.getElem?_eq_none (by simp; omega), List.getElem?_eq_none (by rw [row_len]; omega)]
  refine ⟨L0, L, [V.ref R0], xs, rfl, rfl, s7' _ _ hL1, hL, ?_, fun rows nrows => ?_⟩
  · rw [len2]
    exact Nat.le_trans (show 1 + p.n ≤ 1000 by omega) (by decide)
  rw [exs]
  have s9 := same_new (o := .lst (rowR (p.n + 1) ra)) nrows
  have hrows : upd H7 rows (.lst (rowR (p.n + 1) ra)) rows = some (.lst (rowR (p.n + 1) ra)) := upd_same
  have d8 := s9 _ _ (s7' _ _ (s48 _ _ d4))
  have F8 := s9 _ _ (s7' _ _ hF1)
  have R8 := s9 _ _ (s7' _ _ hR1)
  have rr8 : ∀ k, k < p.n → upd H7 rows (.lst (rowR (p.n + 1) ra)) (rr k).1 = some (.tup [.int (p.wr (k + 1) : Nat), .int (p.rd (k + 1) : Nat), .int (p.st (k + 1) : Nat), .ref (rr k).2]) ∧ upd H7 rows (.lst (rowR (p.n + 1) ra)) (rr k).2 = some (.lst ((flagsL p (k + 1)).map V.str)) := fun k hk => ⟨s9 _ _ (hrr k hk).2.1, s9 _ _ (hrr k hk).2.2.1⟩
  have k8 : ∀ b o, H b = some o → upd H7 rows (.lst (rowR (p.n + 1) ra)) b = some o := fun b o hb => s9 _ _ (s7' _ _ (s48 _ _ (k4 _ _ hb)))
  have nrows0 : H rows = none := n6 _ (s7'.free nrows)
  generalize upd H7 rows (.lst (rowR (p.n + 1) ra)) = H8 at *
  refine v_var rfl _ (val_c _ ⟨d, _, rfl, DPut.k (k := .inr "rows") d8 (by show 4 < sizeLine; decide), ?_⟩)
  have ek : putK [((.inr "lone" : Key), V.int (p.lone : Nat)), (.inr "shared", .int (p.shared : Nat)), (.inr "own", .int (p.own : Nat)), (.inr "through", .bl p.thr)] (.inr "rows") (.ref rows) = tf ⟨d, rows, ra, fa⟩ p := rfl
  rw [ek]
  have lt : ∀ (b : Addr) xs, H8 b = some (.lst xs) → b ≠ d := fun b xs hb z => by
    rw [z, d8] at hb
    cases hb
  have tt : ∀ (b : Addr) xs, H8 b = some (.tup xs) → b ≠ d := fun b xs hb z => by
    rw [z, d8] at hb
    cases hb
  obtain ⟨z1, z2, z3, z4, z5, z6, z7, z8⟩ := ok.zero
  dsimp only
  refine st_ret (v_var rfl) (q ⟨d, rows, ra, fa⟩ _ (fun b o hb => by rw [upd_ne (ne_of_none hb nd)]; exact k8 _ _ hb) ⟨upd_same, by rw [upd_ne (lt _ _ hrows)]; exact hrows, fun i hi => ?_, fun i hi => ?_⟩ ?_)
  · cases i with
    | zero =>
      rw [z1, z2, z3]
      show upd H8 d _ R0 = _
      rw [upd_ne (tt _ _ R8)]
      exact R8
    | succ i =>
      show upd H8 d _ (rr i).1 = _
      have := (rr8 i (by omega)).1
      rw [upd_ne (tt _ _ this)]
      exact this
  · cases i with
    | zero =>
      show upd H8 d _ F0 = _
      rw [upd_ne (lt _ _ F8), F8]
      unfold flagsL
      rw [z4, z5, z6, z7, z8]
      rfl
    | succ i =>
      show upd H8 d _ (rr i).2 = _
      have := (rr8 i (by omega)).2
      rw [upd_ne (lt _ _ this)]
      exact this
  · intro b hb
    unfold TR.dom at hb
    simp only [List.mem_cons, List.mem_append, List.mem_map, List.mem_range] at hb
    rcases hb with rfl | rfl | ⟨k, hk, rfl⟩ | ⟨k, hk, rfl⟩
    · exact nd
    · exact nrows0
    · cases k with
      | zero => exact nR0'
      | succ k => exact n6 _ (hrr k (by omega)).2.2.2.1
    · cases k with
      | zero => exact nF0'
      | succ k => exact n6 _ (hrr k (by omega)).2.2.2.2
end
end Cm
set_option maxHeartbeats 1000000
namespace Cm
open PySem PySem.Spec L2
/-! ### texts put together -/
theorem sapp_assoc (a b c : Str) : a ++ b ++ c = a ++ (b ++ c) := TL.ext_tl (by simp only [TL.tl_append, List.append_assoc])
theorem join_cons (a b : Str) (r : List Str) : Txt.join " " (a :: b :: r) = a ++ " " ++ Txt.join " " (b :: r) := by
  rw [TL.join_eq, TL.join_eq]
  rfl
theorem join_one (a : Str) : Txt.join " " [a] = a := by
  rw [TL.join_eq]
  rfl
theorem join_snoc : ∀ (l : List Str) (x : Str), l ≠ [] → Txt.join " " (l ++ [x]) = Txt.join " " l ++ " " ++ x
  | [], _, h => absurd rfl h
  | [a], x, _ => by
    show Txt.join " " [a, x] = _
    rw [join_cons, join_one, join_one]
  | a :: b :: r, x, _ => by
    show Txt.join " " (a :: b :: (r ++ [x])) = _
    rw [join_cons, join_cons]
    have := join_snoc (b :: r) x (by simp)
    rw [show b :: r ++ [x] = b :: (r ++ [x]) from rfl] at this
    rw [this]
    simp only [sapp_assoc]
/-- the flags that b names among the first i -/
def upF (b : Nat → Bool) (i : Nat) : List Str := (List.range i).flatMap fun j => if b j = true then [FL.getD j ""] else []
theorem upF_succ (b : Nat → Bool) (i : Nat) : upF b (i + 1) = upF b i ++ (if b i = true then [FL.getD i ""] else []) := by
  unfold upF
  rw [List.range_succ, List.flatMap_append]
  simp
/-- a protocol from its parts -/
def mkP (n lone shared own : Nat) (thr : Bool) (W R S : Nat → Nat) (B : Nat → Nat → Bool) : Pr :=
  let g : (Nat → Nat) → Nat → Nat := fun F i => if i = 0 ∨ n < i then 0 else F (i - 1)
  let f : Nat → Nat → Bool := fun j i => if i = 0 ∨ n < i then false else B (i - 1) j
  ⟨n, lone, shared, own, thr, g W, g R, g S, f 0, f 1, f 2, f 3, f 4⟩
theorem mkP_ok {n lone shared own : Nat} {thr : Bool} {W R S : Nat → Nat} {B : Nat → Nat → Bool} (hn : n ≤ 4) (h1 : 1 ≤ lone ∧ lone ≤ n) (h2 : 1 ≤ shared ∧ shared ≤ n) (h3 : 1 ≤ own ∧ own ≤ n) (hW : ∀ i, i < n → W i ≤ n) (hR : ∀ i, i < n → R i ≤ n) (hS : ∀ i, i < n → S i ≤ n) : (mkP n lone shared own thr W R S B).Ok := by
  have g : ∀ F : Nat → Nat, (∀ i, i < n → F i ≤ n) → ∀ i, (if i = 0 ∨ n < i then 0 else F (i - 1)) ≤ n := fun F hF i => by
    split
    · exact Nat.zero_le _
    · rename_i h
      exact hF _ (by omega)
  exact ⟨hn, h1, h2, h3, g W hW, g R hR, g S hS, ⟨rfl, rfl, rfl, rfl, rfl, rfl, rfl, rfl⟩⟩
theorem mkP_at {n lone shared own : Nat} {thr : Bool} {W R S : Nat → Nat} {B : Nat → Nat → Bool} {s : Nat} (hs : s < n) :
    rowWords (mkP n lone shared own thr W R S B) (s + 1) = [("state" : Str), dg (s + 1), dg (W s), dg (R s), dg (S s)] ++ upF (B s) 5 := by
  have c : ¬ (s + 1 = 0 ∨ n < s + 1) := by omega
  have e : ∀ F : Nat → Nat, (if s + 1 = 0 ∨ n < s + 1 then 0 else F (s + 1 - 1)) = F s := fun F => if_neg c
  have f : ∀ j, (if s + 1 = 0 ∨ n < s + 1 then false else B (s + 1 - 1) j) = B s j := fun j => if_neg c
  unfold rowWords flagsL mkP
  simp only [e, f]
  rw [upF_succ, upF_succ, upF_succ, upF_succ, upF_succ, show upF (B s) 0 = [] from rfl, List.nil_append]
  rfl
theorem mkP_text {nm : Str} {n lone shared own : Nat} {thr : Bool} {W R S : Nat → Nat} {B : Nat → Nat → Bool} :
    (lines nm (mkP n lone shared own thr W R S B)).map (Txt.join " ") =
      [("protocol " : Str) ++ nm, "states " ++ dg n, "lone " ++ dg lone, "shared " ++ dg shared, "own " ++ dg own, "through " ++ (if thr = true then ("yes" : Str) else ("no" : Str))] ++
        (List.range n).map fun s => Txt.join " " ([("state" : Str), dg (s + 1), dg (W s), dg (R s), dg (S s)] ++ upF (B s) 5) := by
  unfold lines
  rw [List.map_append, List.map_map]
  have cg : ∀ a b c d : List Str, a = c → b = d → a ++ b = c ++ d := fun a b c d h1 h2 => by rw [h1, h2]
  refine cg _ _ _ _ ?_ ?_
  · have j2 : ∀ a b : Str, Txt.join " " [a, b] = a ++ " " ++ b := fun a b => by rw [join_cons, join_one]
    simp only [List.map_cons, List.map_nil, j2]
    have k : ∀ a b c : Str, a ++ " " = b → a ++ " " ++ c = b ++ c := fun a b c h => by rw [h]
    rw [k "protocol" "protocol " _ (by decide +kernel), k "states" "states " _ (by decide +kernel), k "lone" "lone " _ (by decide +kernel), k "shared" "shared " _ (by decide +kernel), k "own" "own " _ (by decide +kernel), k "through" "through " _ (by decide +kernel)]
    rfl
  · refine List.map_congr_left fun s hs => ?_
    have := mkP_at (lone := lone) (shared := shared) (own := own) (thr := thr) (W := W) (R := R) (S := S) (B := B) (List.mem_range.mp hs)
    exact congrArg (Txt.join " ") this
theorem row_base (a b c d : Str) : Txt.join " " [("state" : Str), a, b, c, d] = "state " ++ a ++ " " ++ b ++ " " ++ c ++ " " ++ d := by
  rw [join_cons, join_cons, join_cons, join_cons, join_one]
  have k : ("state" : Str) ++ " " = "state " := by decide +kernel
  rw [k]
  simp only [sapp_assoc]
theorem sapp_len (a b : Str) : (a ++ b).length = a.length + b.length := by rw [TL.len_tl, TL.tl_append, List.length_append, ← TL.len_tl, ← TL.len_tl]
theorem dg_le (d : Nat) (h : d < 1000) : (dg d).length ≤ 3 := by
  rw [TL.len_tl]
  have e : TL.tl (dg d) = TL.numL d := TL.tl_num d
  rw [e]
  exact TL.numL_len (by decide) h
theorem any_ok {d : Nat} (h : d < 90) : NameOk ("any" ++ dg d) := by
  have e : TL.tl (dg d) = TL.numL d := TL.tl_num d
  have e2 : ("any" ++ dg d : Str).cps.toList = [97, 110, 121] ++ TL.numL d := by
    show TL.tl ("any" ++ dg d) = _
    rw [TL.tl_append, e]
    rfl
  refine ⟨by rw [e2]; simp, ?_, ⟨97, 110 :: 121 :: TL.numL d, by rw [e2]; rfl, by omega, by omega⟩, fun c hc => ?_⟩
  · rw [sapp_len]
    have := dg_le d (by omega)
    have h3 : ("any" : Str).length = 3 := rfl
    omega
  · rw [e2] at hc
    simp only [List.mem_append, List.mem_cons, List.not_mem_nil, or_false] at hc
    rcases hc with (rfl | rfl | rfl) | hc
    · omega
    · omega
    · omega
    · have hd : NumText.AllDigits (TL.numL d) := TL.numL_digits d
      exact .inr (by
        by_cases h : 48 ≤ c ∧ c ≤ 57
        · exact h
        · exact absurd hc (TL.numL_free (by omega)))
section
variable {e : En} {σ : L2.St} {H : Hp} {ta tb te : TE}
theorem v_strI {d : Nat} (h : Val ta σ H (.int (d : Int))) (hd : d < 1000) : Val (tCB rStrInt (tCons ta tNil)) σ H (.str (dg d)) := fun Q q => h _ ⟨(d : Int), rfl, by
  have : d.log2 < 1920 := by
    by_cases hz : d = 0
    · subst hz
      decide
    · have := (Nat.log2_lt (n := d) (k := 10) hz).2 (by omega)
      omega
  rw [Int.natAbs_natCast]
  exact this, q⟩
theorem v_modN {x : Int} {m : Nat} {P : Nat → Prop} (ha : Val ta σ H (.int x)) (hb : Val tb σ H (.int (m : Int))) (hm : 0 < m) : Val (tOp (rI (fun _ j => 0 < j) fun i j => .int (i % j)) ta tb) σ H (.int ((x % (m : Int)).toNat : Nat)) := v_is (v_mod ha hb (by omega)) (congrArg V.int (by
  have := Int.emod_nonneg x (show (m : Int) ≠ 0 by omega)
  omega))
theorem modN_lt (x : Int) {m : Nat} (hm : 0 < m) : (x % (m : Int)).toNat < m := by
  have h1 := Int.emod_nonneg x (show (m : Int) ≠ 0 by omega)
  have h2 := Int.emod_lt_of_pos x (show (0 : Int) < (m : Int) by omega)
  omega
theorem FL_at {i : Nat} (h : i < 5) : atI [V.str "giveread", .str "cleanread", .str "givesteal", .str "cleansteal", .str "back"] (i : Int) = some (.str (FL.getD i "")) := by
  have : i = 0 ∨ i = 1 ∨ i = 2 ∨ i = 3 ∨ i = 4 := by omega
  rcases this with rfl | rfl | rfl | rfl | rfl <;> rfl
theorem FL_len {i : Nat} (h : i < 5) : (FL.getD i "").length ≤ 10 := by
  have : i = 0 ∨ i = 1 ∨ i = 2 ∨ i = 3 ∨ i = 4 := by omega
  rcases this with rfl | rfl | rfl | rfl | rfl <;> decide
theorem upF_len (b : Nat → Bool) {i : Nat} (h : i ≤ 5) : (upF b i).length ≤ i ∧ ∀ x, x ∈ upF b i → x.length ≤ 10 := by
  induction i with
  | zero => exact ⟨Nat.le_refl _, fun x hx => by simp [upF] at hx⟩
  | succ i ih =>
    obtain ⟨h1, h2⟩ := ih (by omega)
    rw [upF_succ]
    split
    · refine ⟨by simp; omega, fun x hx => ?_⟩
      rcases List.mem_append.mp hx with hx | hx
      · exact h2 x hx
      · have : x = FL.getD i "" := by simpa using hx
        rw [this]
        exact FL_len (by omega)
    · rw [List.append_nil]
      exact ⟨by omega, h2⟩
theorem line_len {a b c d : Str} (ha : a.length ≤ 3) (hb : b.length ≤ 3) (hc : c.length ≤ 3) (hd : d.length ≤ 3) (B : Nat → Bool) {i : Nat} (hi : i ≤ 5) : (Txt.join " " ([("state" : Str), a, b, c, d] ++ upF B i)).length ≤ 120 := by
  obtain ⟨h1, h2⟩ := upF_len B hi
  refine words_len (b := 10) (n := 10) (fun x hx => ?_) ?_ (by decide)
  · rcases List.mem_append.mp hx with hx | hx
    · simp only [List.mem_cons, List.not_mem_nil, or_false] at hx
      rcases hx with rfl | rfl | rfl | rfl | rfl
      · decide
      · omega
      · omega
      · omega
      · omega
    · exact h2 x hx
  · rw [List.length_append]
    show 5 + _ ≤ 10
    omega
theorem e_join {a : Addr} {ys : List Str} {Q : VK} (hb : Val tb σ H (.ref a)) (h : H a = some (.lst (ys.map V.str))) (hl : (ys.map (·.length)).sum + ys.length ≤ 100000) (q : Q (.str (Txt.join "\n" ys)) H) : tJoin e.K (tC (.str "\n")) tb σ H Q :=
  val_c _ ⟨⟨_, rfl⟩, hb _ ⟨"\n", a, ys, rfl, rfl, Or.inl (SqL.of h), by
    have e1 : ("\n" : Str).length = 1 := rfl
    rw [e1]
    exact Nat.le_trans (by omega) (show (100000 : Nat) ≤ 16777216 by decide), q⟩⟩
end
end Cm
set_option maxHeartbeats 1000000
namespace Cm
open PySem PySem.Spec L2
section
variable {e : En}
/-- the text at the end, its lines in hd and in rows -/
theorem text_len {hd : List Str} {n : Nat} {rows : Nat → Str} (h1 : hd.length ≤ 10) (h2 : ∀ x, x ∈ hd → x.length ≤ 120) (h3 : n ≤ 4) (h4 : ∀ i, i < n → (rows i).length ≤ 120) : ((hd ++ (List.range n).map rows).map (·.length)).sum + (hd ++ (List.range n).map rows).length ≤ 100000 := by
  have := sum_le (l := (hd ++ (List.range n).map rows).map (·.length)) (b := 120) fun x hx => by
    obtain ⟨y, hy, rfl⟩ := List.mem_map.mp hx
    rcases List.mem_append.mp hy with hy | hy
    · exact h2 y hy
    · obtain ⟨i, hi, rfl⟩ := List.mem_map.mp hy
      exact h4 i (List.mem_range.mp hi)
  rw [List.length_map] at this
  have hl : (hd ++ (List.range n).map rows).length ≤ 14 := by
    rw [List.length_append, List.length_map, List.length_range]
    omega
  omega
theorem p_law_table_text (vs : List V) (H : Hp) (Q : VK) (E : XK) (h : sp_law_table_text e vs H Q E) : t_law_table_text e { nx := fun _ H' => Q .non H', rt := Q } (start N_law_table_text vs) H := by
  obtain ⟨a, f, rfl, ha, hf, q⟩ := h
  have ix : ∀ (k : Nat) (σ : L2.St) (H' : Hp) (tk : TE), Same H H' → σ[0]? = some (some (.ref a)) → Val tk σ H' (.int (k : Int)) → k < 21 → Val (tOp (rIxL e.K) (tVar 0) tk) σ H' (.int (f k)) := fun k σ H' tk s h0 hk lk => v_ixL (v_var h0) hk (s _ _ ha) (row_get (g := V.int) lk)
  have rf : Same H H := fun _ _ z => z
  obtain ⟨m, hm⟩ : ∃ m : Nat, m = (f 0 % ((4 : Nat) : Int)).toNat := ⟨_, rfl⟩
  have m4 : m < 4 := by rw [hm]; exact modN_lt _ (by decide)
  refine st_seq (st_set (v_is (w := .int ((1 + m : Nat) : Int)) (v_add val_c (v_modN (P := fun _ => True) (ix 0 _ _ _ rf rfl val_c (by decide)) val_c (by decide))) (congrArg V.int (by rw [← hm]; omega))) ?_)
  dsimp only
  obtain ⟨n, hn⟩ : ∃ n : Nat, n = 1 + m := ⟨_, rfl⟩
  rw [← hn]
  have n1 : 1 ≤ n := by omega
  have n4 : n ≤ 4 := by omega
  obtain ⟨d, hd⟩ : ∃ d : Nat, d = (f 1 % ((90 : Nat) : Int)).toNat := ⟨_, rfl⟩
  have d90 : d < 90 := by rw [hd]; exact modN_lt _ (by decide)
  have plus1 : ∀ (x : Int) (σ : L2.St) (H' : Hp) (tx : TE), Val tx σ H' (.int x) → σ[1]? = some (some (.int (n : Int))) → Val (tOp (rI0 fun i j => .int (i + j)) (tC (.int 1)) (tOp (rI (fun _ j => 0 < j) fun i j => .int (i % j)) tx (tVar 1))) σ H' (.int ((1 + (x % (n : Int)).toNat : Nat) : Int)) := fun x σ H' tx hx h1 =>
    v_is (v_add val_c (v_modN (P := fun _ => True) hx (v_var h1) (by omega))) (congrArg V.int (by omega))
  have b1 : ∀ x : Int, 1 ≤ 1 + (x % (n : Int)).toNat ∧ 1 + (x % (n : Int)).toNat ≤ n := fun x => by
    have := modN_lt x (show 0 < n by omega)
    omega
  obtain ⟨lone, hlone⟩ : ∃ l : Nat, l = 1 + (f 1 % (n : Int)).toNat := ⟨_, rfl⟩
  obtain ⟨shared, hshared⟩ : ∃ l : Nat, l = 1 + (f 2 % (n : Int)).toNat := ⟨_, rfl⟩
  obtain ⟨own, hown⟩ : ∃ l : Nat, l = 1 + (f 3 % (n : Int)).toNat := ⟨_, rfl⟩
  have bl := b1 (f 1)
  have bs := b1 (f 2)
  have bo := b1 (f 3)
  rw [← hlone] at bl
  rw [← hshared] at bs
  rw [← hown] at bo
  have dl : ∀ x, x < 1000 → (dg x).length ≤ 3 := fun x h => dg_le x h
  have la : ∀ (w : Str) (x : Nat), w.length ≤ 20 → x < 1000 → w.length + (dg x).length ≤ 100000 := fun w x h1 h2 => by
    have := dl x h2
    omega
  refine st_seq (st_asg (e_lst (arg_cons (v_addS val_c (v_strI (d := d) (v_is (v_modN (P := fun _ => True) (ix 1 _ _ _ rf rfl val_c (by decide)) val_c (by decide)) (by rw [hd])) (by omega)) (la _ _ (by decide) (by omega))) (arg_cons (v_addS val_c (v_strI (d := n) (v_var rfl) (by omega)) (la _ _ (by decide) (by omega)))
    (arg_cons (v_addS val_c (v_strI (d := lone) (v_is (plus1 (f 1) _ _ _ (ix 1 _ _ _ rf rfl val_c (by decide)) rfl) (by rw [hlone])) (by omega)) (la _ _ (by decide) (by omega))) (arg_cons (v_addS val_c (v_strI (d := shared) (v_is (plus1 (f 2) _ _ _ (ix 2 _ _ _ rf rfl val_c (by decide)) rfl) (by rw [hshared])) (by omega)) (la _ _ (by decide) (by omega))) arg_nil)))) (by show 4 ≤ 1000; decide) fun L1 nL1 => ?_))
  have s1 := same_new (o := .lst [.str ("protocol any" ++ dg d), .str ("states " ++ dg n), .str ("lone " ++ dg lone), .str ("shared " ++ dg shared)]) nL1
  have hL1 : upd H L1 (.lst [.str ("protocol any" ++ dg d), .str ("states " ++ dg n), .str ("lone " ++ dg lone), .str ("shared " ++ dg shared)]) L1 = some (.lst [.str ("protocol any" ++ dg d), .str ("states " ++ dg n), .str ("lone " ++ dg lone), .str ("shared " ++ dg shared)]) := upd_same
  generalize upd H L1 (.lst [.str ("protocol any" ++ dg d), .str ("states " ++ dg n), .str ("lone " ++ dg lone), .str ("shared " ++ dg shared)]) = H1 at *
  dsimp only
  refine st_seq (st_asg (e_op (v_var rfl _ (e_lstx (e_cons ?_)))))
  refine v_addS val_c (v_strI (d := own) (v_is (plus1 (f 3) _ _ _ (ix 3 _ _ _ s1 rfl val_c (by decide)) rfl) (by rw [hown])) (by omega)) (la _ _ (by decide) (by omega)) _ ?_
  refine e_cons (e_op (val_c _ (e_op (e_lst (arg_cons val_c (arg_cons val_c (arg_cons val_c (arg_cons val_c arg_nil)))) (by show 4 ≤ 1000; decide) fun T nT => ?_))))
  have s2 := s1.trans (same_new (o := .lst [.str "no", .str "no", .str "no", .str "yes"]) nT)
  have hT : upd H1 T (.lst [.str "no", .str "no", .str "no", .str "yes"]) T = some (.lst [.str "no", .str "no", .str "no", .str "yes"]) := upd_same
  have hL2 := same_new (o := .lst [.str "no", .str "no", .str "no", .str "yes"]) nT _ _ hL1
  generalize upd H1 T (.lst [.str "no", .str "no", .str "no", .str "yes"]) = H2 at *
  obtain ⟨tq, htq⟩ : ∃ t : Nat, t = (f 4 % ((4 : Nat) : Int)).toNat := ⟨_, rfl⟩
  have tq4 : tq < 4 := by rw [htq]; exact modN_lt _ (by decide)
  refine v_is (w := .int (tq : Int)) (v_modN (P := fun _ => True) (ix 4 _ _ _ s2 rfl val_c (by decide)) val_c (by decide)) (by rw [htq]) _ ?_
  have at4 : ([V.str "no", .str "no", .str "no", .str "yes"])[tq]? = some (.str (if decide (tq = 3) = true then ("yes" : Str) else ("no" : Str))) := by
    have : tq = 0 ∨ tq = 1 ∨ tq = 2 ∨ tq = 3 := by omega
    rcases this with z | z | z | z <;> rw [z] <;> rfl
  refine ⟨T, _, _, _, rfl, rfl, SqL.of hT, atI_nat at4, ?_⟩
  refine ⟨_, _, rfl, rfl, ?_, e_nil ⟨by show 2 ≤ sizeLine; decide, fun U nU => ?_⟩⟩
  · have h8 : ("through " : Str).length = 8 := rfl
    have h3 : (if decide (tq = 3) = true then ("yes" : Str) else ("no" : Str)).length ≤ 3 := by split <;> decide
    rw [h8]
    exact Nat.le_trans (show _ ≤ 1000 by omega) (by decide)
  have s3 := s2.trans (same_new (o := .lst [.str ("own " ++ dg own), .str ("through " ++ (if decide (tq = 3) = true then ("yes" : Str) else ("no" : Str)))]) nU)
  have hL3 := same_new (o := .lst [.str ("own " ++ dg own), .str ("through " ++ (if decide (tq = 3) = true then ("yes" : Str) else ("no" : Str)))]) nU _ _ hL2
  refine ⟨L1, U, _, _, rfl, rfl, hL3, upd_same, by show 4 + 2 ≤ sizeLine; decide, fun L nL => ?_⟩
  generalize upd H2 U (.lst [.str ("own " ++ dg own), .str ("through " ++ (if decide (tq = 3) = true then ("yes" : Str) else ("no" : Str)))]) = H3 at *
  obtain ⟨hdL, hhd⟩ : ∃ hdL : List Str, hdL = [("protocol any" : Str) ++ dg d, "states " ++ dg n, "lone " ++ dg lone, "shared " ++ dg shared, "own " ++ dg own, "through " ++ (if decide (tq = 3) = true then ("yes" : Str) else ("no" : Str))] := ⟨_, rfl⟩
  have ehd : [V.str ("protocol any" ++ dg d), .str ("states " ++ dg n), .str ("lone " ++ dg lone), .str ("shared " ++ dg shared)] ++ [.str ("own " ++ dg own), .str ("through " ++ (if decide (tq = 3) = true then ("yes" : Str) else ("no" : Str)))] = (hdL ++ (List.range 0).map fun _ => ("" : Str)).map V.str := by
    rw [hhd]
    rfl
  rw [ehd]
  have s4 := s3.trans (same_new (o := .lst ((hdL ++ (List.range 0).map fun _ => ("" : Str)).map V.str)) nL)
  have hL4 : upd H3 L (.lst ((hdL ++ (List.range 0).map fun _ => ("" : Str)).map V.str)) L = some (.lst ((hdL ++ (List.range 0).map fun _ => ("" : Str)).map V.str)) := upd_same
  have nL0 : H L = none := s3.free nL
  generalize upd H3 L (.lst ((hdL ++ (List.range 0).map fun _ => ("" : Str)).map V.str)) = H4 at *
  dsimp only
  -- the rows
  let W : Nat → Nat := fun s => if f (5 + s) / 8 % 2 = 0 then (f (5 + s) % ((n + 1 : Nat) : Int)).toNat else 0
  let R : Nat → Nat := fun s => (f (9 + s) % ((n + 1 : Nat) : Int)).toNat
  let S : Nat → Nat := fun s => if f (13 + s) / 8 % 3 = 0 then (f (13 + s) % ((n + 1 : Nat) : Int)).toNat else 0
  let B : Nat → Nat → Bool := fun s i => decide (Builtin.bitAnd (f (17 + s) / 2 ^ ((i : Int)).toNat) 1 = 1)
  let rows : Nat → Str := fun s => Txt.join " " ([("state" : Str), dg (s + 1), dg (W s), dg (R s), dg (S s)] ++ upF (B s) 5)
  have hW : ∀ s, W s ≤ n := fun s => by
    show (if f (5 + s) / 8 % 2 = 0 then (f (5 + s) % ((n + 1 : Nat) : Int)).toNat else 0) ≤ n
    split
    · have := modN_lt (f (5 + s)) (show 0 < n + 1 by omega)
      omega
    · omega
  have hR : ∀ s, R s ≤ n := fun s => by
    have := modN_lt (f (9 + s)) (show 0 < n + 1 by omega)
    show (f (9 + s) % ((n + 1 : Nat) : Int)).toNat ≤ n
    omega
  have hS : ∀ s, S s ≤ n := fun s => by
    show (if f (13 + s) / 8 % 3 = 0 then (f (13 + s) % ((n + 1 : Nat) : Int)).toNat else 0) ≤ n
    split
    · have := modN_lt (f (13 + s)) (show 0 < n + 1 by omega)
      omega
    · omega
  refine st_seq (st_forR (n := n) (v_var rfl) (by omega) (fun i σ H' => ∃ z3 z4 z5 z6 z7, σ = [some (.ref a), some (.int (n : Int)), some (.ref L), z3, z4, z5, z6, z7] ∧ Same H H' ∧ H' L = some (.lst ((hdL ++ (List.range i).map rows).map V.str))) ⟨_, _, _, _, _, rfl, s4, hL4⟩ ?_ ?_)
  · rintro s σ H5 hs ⟨z3, z4, z5, z6, z7, rfl, s5, l5⟩
    have mod1 : ∀ (k : Nat) (σ : L2.St), σ[0]? = some (some (.ref a)) → σ[1]? = some (some (.int (n : Int))) → σ[3]? = some (some (.int (s : Int))) → k + s < 21 → Val (tOp (rI (fun _ j => 0 < j) fun i j => .int (i % j)) (tOp (rIxL e.K) (tVar 0) (tOp (rI0 fun i j => .int (i + j)) (tC (.int (k : Int))) (tVar 3))) (tOp (rI0 fun i j => .int (i + j)) (tVar 1) (tC (.int 1)))) σ H5 (.int ((f (k + s) % ((n + 1 : Nat) : Int)).toNat : Nat)) := fun k σ h0 h1 h3 hk =>
      v_modN (P := fun _ => True) (ix (k + s) _ _ _ s5 h0 (v_is (v_add val_c (v_var h3)) (congrArg V.int (by omega))) hk) (v_is (v_add (v_var h1) val_c) (congrArg V.int (by omega))) (by omega)
    have sel : ∀ (k j : Nat) (σ : L2.St), 0 < j → j < 10 → σ[0]? = some (some (.ref a)) → σ[1]? = some (some (.int (n : Int))) → σ[3]? = some (some (.int (s : Int))) → k + s < 21 →
        Val (tIf (tTest (tOp rEq (tOp (rI (fun _ j => 0 < j) fun i j => .int (i % j)) (tOp (rI CDiv fun i j => .int (i / j)) (tOp (rIxL e.K) (tVar 0) (tOp (rI0 fun i j => .int (i + j)) (tC (.int (k : Int))) (tVar 3))) (tC (.int 8))) (tC (.int (j : Int)))) (tC (.int 0)))) (tOp (rI (fun _ j => 0 < j) fun i j => .int (i % j)) (tOp (rIxL e.K) (tVar 0) (tOp (rI0 fun i j => .int (i + j)) (tC (.int (k : Int))) (tVar 3))) (tOp (rI0 fun i j => .int (i + j)) (tVar 1) (tC (.int 1)))) (tC (.int 0))) σ H5
          (.int ((if f (k + s) / 8 % (j : Int) = 0 then (f (k + s) % ((n + 1 : Nat) : Int)).toNat else 0 : Nat) : Int)) := fun k j σ j0 j1 h0 h1 h3 hk => by
      refine v_if (a_eqI (v_mod (v_div (ix (k + s) _ _ _ s5 h0 (v_is (v_add val_c (v_var h3)) (congrArg V.int (by omega))) hk) val_c ⟨by decide, by decide⟩) val_c (by omega)) val_c rfl) (fun hb => ?_) fun hb => ?_
      · rw [decide_eq_true_eq] at hb
        rw [if_pos hb]
        exact mod1 k σ h0 h1 h3 hk
      · rw [decide_eq_false_iff_not] at hb
        rw [if_neg hb]
        exact val_c
    refine st_seq (st_set (sel 5 2 _ (by decide) (by decide) rfl rfl rfl (by omega)) ?_)
    dsimp only
    refine st_seq (st_set (sel 13 3 _ (by decide) (by decide) rfl rfl rfl (by omega)) ?_)
    dsimp only
    have hWs := hW s
    have hRs := hR s
    have hSs := hS s
    have eb := row_base (dg (s + 1)) (dg (W s)) (dg (R s)) (dg (S s))
    have d1 := dl (s + 1) (by omega)
    have d2 := dl (W s) (by omega)
    have d3 := dl (R s) (by omega)
    have d4 := dl (S s) (by omega)
    have l6 : ("state " : Str).length = 6 := rfl
    have l1 : (" " : Str).length = 1 := rfl
    have vl : Val (tOp rAddStr (tOp rAddStr (tOp rAddStr (tOp rAddStr (tOp rAddStr (tOp rAddStr (tOp rAddStr (tC (.str "state ")) (tCB rStrInt (tCons (tOp (rI0 fun i j => .int (i + j)) (tVar 3) (tC (.int 1))) tNil))) (tC (.str " "))) (tCB rStrInt (tCons (tVar 4) tNil))) (tC (.str " "))) (tCB rStrInt (tCons (tOp (rI (fun _ j => 0 < j) fun i j => .int (i % j)) (tOp (rIxL e.K) (tVar 0) (tOp (rI0 fun i j => .int (i + j)) (tC (.int 9)) (tVar 3))) (tOp (rI0 fun i j => .int (i + j)) (tVar 1) (tC (.int 1)))) tNil))) (tC (.str " "))) (tCB rStrInt (tCons (tVar 5) tNil)))
        [some (.ref a), some (.int (n : Int)), some (.ref L), some (.int (s : Int)), some (.int (W s : Nat)), some (.int (S s : Nat)), z6, z7] H5 (.str (Txt.join " " ([("state" : Str), dg (s + 1), dg (W s), dg (R s), dg (S s)] ++ upF (B s) 0))) := by
      rw [show ([("state" : Str), dg (s + 1), dg (W s), dg (R s), dg (S s)] ++ upF (B s) 0) = [("state" : Str), dg (s + 1), dg (W s), dg (R s), dg (S s)] from rfl, eb]
      refine v_addS (v_addS (v_addS (v_addS (v_addS (v_addS (v_addS val_c (v_strI (d := s + 1) (v_is (v_add (v_var rfl) val_c) (congrArg V.int (by omega))) (by omega)) ?_) val_c ?_) (v_strI (v_var rfl) (by omega)) ?_) val_c ?_) (v_strI (mod1 9 _ rfl rfl rfl (by omega)) ?_) ?_) val_c ?_) (v_strI (v_var rfl) (by omega)) ?_
      all_goals (try simp only [sapp_len])
      all_goals (try omega)
    refine st_seq (st_set vl ?_)
    dsimp only
    have nLs : ∀ G : Hp, (∃ xs, G L = some (.lst xs)) → ∀ b, G b = none → L ≠ b := fun G ⟨xs, h⟩ b hb => ne_of_none h hb
    refine st_seq (st_forR (n := 5) val_c (by omega) (fun i σ H' => ∃ z7, σ = [some (.ref a), some (.int (n : Int)), some (.ref L), some (.int (s : Int)), some (.int (W s : Nat)), some (.int (S s : Nat)), some (.str (Txt.join " " ([("state" : Str), dg (s + 1), dg (W s), dg (R s), dg (S s)] ++ upF (B s) i))), z7] ∧ Same H5 H') ⟨_, rfl, fun _ _ z => z⟩ ?_ ?_)
    · rintro i σ H6 hi ⟨z, rfl, s6⟩
      have len := line_len d1 d2 d3 d4 (B s) (i := i) (by omega)
      have e1 := upF_succ (B s) i
      refine st_if (b := B s i) (a_eqI (v_and (v_shr (ix (17 + s) _ _ _ (s5.trans s6) rfl (v_is (v_add val_c (v_var rfl)) (congrArg V.int (by omega))) (by omega)) (v_var rfl) (by omega)) val_c) val_c rfl) (fun hb => ?_) fun hb => st_next ⟨some (.int (i : Int)), ?_, s6⟩
      · rw [if_pos hb] at e1
        refine st_asg (e_op ?_)
        refine v_addS (v_var rfl) val_c (by rw [l1]; omega) _ ?_
        refine e_op (e_lst (arg_cons val_c (arg_cons val_c (arg_cons val_c (arg_cons val_c (arg_cons val_c arg_nil))))) (by show 5 ≤ 1000; decide) fun N nN => ?_)
        refine v_var rfl _ ⟨N, _, _, _, rfl, rfl, SqL.of upd_same, FL_at hi, ?_⟩
        have lf := FL_len hi
        refine ⟨_, _, rfl, rfl, Nat.le_trans (show _ ≤ 1000 by rw [sapp_len, l1]; omega) (by decide), some (.int (i : Int)), ?_, s6.trans (same_new nN)⟩
        rw [e1, ← List.append_assoc, join_snoc _ _ (by simp)]
        rfl
      · rw [if_neg (by rw [hb]; decide), List.append_nil] at e1
        rw [e1]
        rfl
    · rintro σ H6 ⟨z, rfl, s6⟩
      have l6' := s6 _ _ l5
      refine st_append (v_var rfl) l6' ?_
      refine v_var rfl _ ?_
      refine ⟨L, _, _, rfl, rfl, l6', ?_, _, _, _, _, _, rfl, fun b o hb => ?_, ?_⟩
      · rw [List.length_map, List.length_append, List.length_map, List.length_range, hhd]
        exact Nat.lt_of_lt_of_le (show 6 + s < 1000 by omega) (by decide)
      · rw [upd_ne (ne_of_none hb nL0)]
        exact s6 _ _ (s5 _ _ hb)
      · rw [upd_same, List.range_succ]
        simp only [List.map_append, List.append_assoc]
        rfl
  · rintro σ H5 ⟨z3, z4, z5, z6, z7, rfl, s5, l5⟩
    dsimp only
    refine st_rt ?_
    have hd120 : ∀ x, x ∈ hdL → x.length ≤ 120 := fun x hx => by
      rw [hhd] at hx
      simp only [List.mem_cons, List.not_mem_nil, or_false] at hx
      have d1 := dl d (by omega)
      have d2 := dl n (by omega)
      have d3 := dl lone (by omega)
      have d4 := dl shared (by omega)
      have d5 := dl own (by omega)
      have k : ∀ w : Str, w.length ≤ 20 → ∀ y : Str, y.length ≤ 3 → (w ++ y).length ≤ 120 := fun w hw y hy => by
        rw [sapp_len]
        omega
      rcases hx with rfl | rfl | rfl | rfl | rfl | rfl
      · exact k _ (by decide) _ d1
      · exact k _ (by decide) _ d2
      · exact k _ (by decide) _ d3
      · exact k _ (by decide) _ d4
      · exact k _ (by decide) _ d5
      · exact k _ (by decide) _ (by split <;> decide)
    refine e_join (e := e) (v_var rfl) l5 (text_len (by rw [hhd]; show 6 ≤ 10; decide) hd120 n4 fun i hi => ?_) ?_
    · have h1 := hW i
      have h2 := hR i
      have h3 := hS i
      exact line_len (dl _ (by omega)) (dl _ (by omega)) (dl _ (by omega)) (dl _ (by omega)) (B i) (Nat.le_refl 5)
    · have e1 : Txt.join "\n" (hdL ++ (List.range n).map rows) = ptext ("any" ++ dg d) (mkP n lone shared own (decide (tq = 3)) W R S B) := by
        unfold ptext
        rw [mkP_text, hhd]
        have k : ("protocol any" : Str) ++ dg d = "protocol " ++ ("any" ++ dg d) := by
          rw [← sapp_assoc]
          have : ("protocol " : Str) ++ "any" = "protocol any" := by decide +kernel
          rw [this]
        rw [k]
      rw [e1]
      exact q _ _ H5 (any_ok d90) (mkP_ok n4 bl bs bo (fun i _ => hW i) (fun i _ => hR i) (fun i _ => hS i)) s5
end
end Cm
set_option maxHeartbeats 1000000
namespace Cm
open PySem PySem.Spec L2
/-! ### data laid by constants -/
def AD (K : PySem.W.Frag) (t : TE) (d : PyData) : Prop := ∀ (σ : L2.St) (H : Hp) (Q : VK), (∀ v H', Same H H' → Dp K (mi H' H) v d → Q v H') → t σ H Q
def ADs (K : PySem.W.Frag) (t : TA) (ds : List PyData) : Prop := ∀ (σ : L2.St) (H : Hp) (Q : List V → Hp → Prop), (∀ vs H', Same H H' → DpAll K (mi H' H) vs ds → Q vs H') → t σ H Q
section
variable {K : PySem.W.Frag} {te : TE} {t : TA} {d : PyData} {ds : List PyData}
theorem ad_int {i : Int} : AD K (tC (.int i)) (.int i) := fun σ H Q q => q _ _ (fun _ _ z => z) (.int i)
theorem ad_str {x : Str} : AD K (tC (.str x)) (.str x) := fun σ H Q q => q _ _ (fun _ _ z => z) (.str x)
theorem ad_nil : ADs K tNil [] := fun σ H Q q => q _ _ (fun _ _ z => z) .nil
theorem ad_cons (h : AD K te d) (hs : ADs K t ds) : ADs K (tCons te t) (d :: ds) := fun σ H Q q => h σ H _ fun v H1 s1 d1 => hs σ H1 _ fun vs H2 s2 d2 =>
  q _ _ (s1.trans s2) (.cons (Dp.mono (mi_mono (fun b o z _ => s2 _ _ z) fun b n => n) d1) (DpAll.mono (mi_mono (fun b o z _ => z) fun b n => s1.free n) d2))
theorem ad_tup (h : ADs K t ds) (hl : ds.length ≤ 1000) : AD K (tTup t) (.tuple ds) := fun σ H Q q => h σ H _ fun vs H1 s1 d1 => ⟨by rw [DpAll.len d1]; exact Nat.le_trans hl (by decide), fun p hp =>
  q _ _ (s1.trans (same_new hp)) (.tup (SqT.of (mi_of upd_same (s1.free hp))) (DpAll.mono (mi_mono (fun b o z _ => same_new hp _ _ z) fun b n => n) d1))⟩
theorem ad_lst (h : ADs K t ds) (hl : ds.length ≤ 1000) : AD K (tLst t) (.list ds) := fun σ H Q q => h σ H _ fun vs H1 s1 d1 => ⟨by rw [DpAll.len d1]; exact Nat.le_trans hl (by decide), fun p hp =>
  q _ _ (s1.trans (same_new hp)) (.lst (SqL.of (mi_of upd_same (s1.free hp))) (DpAll.mono (mi_mono (fun b o z _ => same_new hp _ _ z) fun b n => n) d1))⟩
end
/-! ### the sharing protocols -/
def thS (th : Bool) : Str := if th = true then "yes" else "no"
def shL (th : Bool) : Nat → List Str
  | 0 => ["protocol simple", "states 1", "lone 1", "shared 1", "own 1", "through yes", "1 0 1 0"]
  | 1 => [("protocol two" : Str), "states 2", "lone 1", "shared 1", "own 2", "through " ++ thS th, "1 0 1 0", "2 2 1 0"]
  | 2 => [("protocol three" : Str), "states 3", "lone 2", "shared 1", "own 3", "through " ++ thS th, "1 0 1 0", "2 3 1 0", "3 3 1 0"]
  | _ => [("protocol four" : Str), "states 4", "lone 2", "shared 1", "own 3", "through " ++ thS th, "1 0 1 0", "2 3 1 0", "3 3 4 0", "4 0 4 0"]
def shX (th lo : Bool) (k : Nat) : List Str := if lo = true ∧ 1 < k then (shL th k).set 2 "lone 1" else shL th k
def shN : Nat → Str
  | 0 => "simple"
  | 1 => "two"
  | 2 => "three"
  | _ => "four"
def shLone (lo : Bool) (k : Nat) : Nat := if k < 2 ∨ lo = true then 1 else 2
def shOwn : Nat → Nat
  | 0 => 1
  | 1 => 2
  | _ => 3
def shW : Nat → Nat → Nat
  | 0, _ => 0
  | 1, s => if s = 1 then 2 else 0
  | 2, s => if s = 0 then 0 else 3
  | _, s => if s = 1 ∨ s = 2 then 3 else 0
def shR : Nat → Nat → Nat
  | 0, _ => 1
  | 1, _ => 1
  | 2, _ => 1
  | _, s => if s < 2 then 1 else 4
def shO (k s : Nat) : Str := dg (s + 1) ++ " " ++ dg (shW k s) ++ " " ++ dg (shR k s) ++ " " ++ dg 0
def shH (th lo : Bool) (k : Nat) : List Str := [("protocol " : Str) ++ shN k, "states " ++ dg (k + 1), "lone " ++ dg (shLone lo k), "shared " ++ dg 1, "own " ++ dg (shOwn k), "through " ++ (if (decide (k = 0) || th) = true then ("yes" : Str) else ("no" : Str))]
theorem sh_eq : ∀ (th lo : Bool) (k : Nat), k < 4 → shX th lo k = shH th lo k ++ (List.range (k + 1)).map (shO k) := by decide +kernel
theorem shN_ok : ∀ k, NameOk (shN k) := by
  have k : ∀ x : Str, (x.cps.toList ≠ [] ∧ x.length ≤ 12 ∧ (x.cps.toList.headD 0 ≠ 114 ∧ 97 ≤ x.cps.toList.headD 0 ∧ x.cps.toList.headD 0 ≤ 122) ∧ ∀ c, c ∈ x.cps.toList → (97 ≤ c ∧ c ≤ 122) ∨ (48 ≤ c ∧ c ≤ 57)) → NameOk x := fun x ⟨h1, h2, h3, h4⟩ => by
    refine ⟨h1, h2, ?_, h4⟩
    cases hx : x.cps.toList with
    | nil => exact absurd hx h1
    | cons c r =>
      rw [hx] at h3
      exact ⟨c, r, rfl, ⟨h3.2.1, h3.2.2⟩, h3.1⟩
  intro i
  match i with
  | 0 => exact k _ (by decide +kernel)
  | 1 => exact k _ (by decide +kernel)
  | 2 => exact k _ (by decide +kernel)
  | _ + 3 => exact k "four" (by decide +kernel)
theorem sh_bounds : ∀ k, k < 4 → (∀ lo : Bool, 1 ≤ shLone lo k ∧ shLone lo k ≤ k + 1) ∧ (1 ≤ shOwn k ∧ shOwn k ≤ k + 1) ∧ (∀ i, i < k + 1 → shW k i ≤ k + 1) ∧ ∀ i, i < k + 1 → shR k i ≤ k + 1 := by decide +kernel
theorem shH_len : ∀ (th lo : Bool) (k : Nat), k < 4 → ∀ x, x ∈ shH th lo k → x.length ≤ 120 := by decide +kernel
theorem shO_len : ∀ k, k < 4 → ∀ s, s < k + 1 → (shO k s).length ≤ 20 := by decide +kernel
def pr2 (i : Int) (x : Str) : PyData := .tuple [.int i, .str x]
def shD : Nat → List PyData
  | 0 => []
  | 1 => [pr2 2 "giveread", pr2 2 "cleanread", pr2 2 "givesteal", pr2 2 "back"]
  | 2 => [pr2 3 "giveread", pr2 3 "cleanread", pr2 3 "givesteal", pr2 3 "back"]
  | _ => [pr2 3 "giveread", pr2 3 "givesteal", pr2 3 "back", pr2 4 "giveread", pr2 4 "givesteal", pr2 4 "back"]
theorem shD_sh : ∀ k, k < 4 → SeqAt.shaped (.list (shD k)) = true := by decide +kernel
theorem FL_sh : ∀ j, j < 5 → PyData.strOk (FL.getD j "") = true := by decide +kernel
section
variable {e : En}
theorem st_appL {K : PySem.W.Frag} {σ : L2.St} {H : Hp} {D : Ends} {i : Nat} {L : Addr} {xs : List V} {t : TA} {ys : List V} (hv : σ[i]? = some (some (.ref L))) (hL : H L = some (.lst xs)) (hx : xs.length ≤ 100) (ha : Arg t σ H ys) (hy : ys.length ≤ 100)
    (q : ∀ (l : Addr) (H' : Hp), H l = none → (∀ b o, H b = some o → b ≠ L → H' b = some o) → H' l = some (.lst ys) → H' L = some (.lst (xs ++ [.ref l])) → D.nx σ H') : tDrop (tBM K "list" rAppend (tVar i) (tCons (tLst t) tNil)) D σ H := by
  refine st_append (v_var hv) hL ?_
  refine e_lst ha (by omega) fun l nl => ?_
  have nlL : L ≠ l := ne_of_none hL nl
  refine ⟨L, xs, .ref l, rfl, rfl, same_new nl _ _ hL, Nat.lt_of_lt_of_le (show xs.length < 1000 by omega) (by decide), q l _ nl (fun b o hb n => ?_) ?_ upd_same⟩
  · rw [upd_ne n]
    exact same_new nl _ _ hb
  · rw [upd_ne nlL.symm]
    exact upd_same
theorem DpAll.snoc {K : PySem.W.Frag} {H : Hp} {v : V} {d : PyData} : ∀ {vs : List V} {ds : List PyData}, DpAll K H vs ds → Dp K H v d → DpAll K H (vs ++ [v]) (ds ++ [d])
  | _, _, .nil, h => .cons h .nil
  | _, _, .cons a t, h => .cons a (DpAll.snoc t h)
theorem told_set {hd : List Str} {n i : Nat} {R O : Nat → Str} (h6 : hd.length = 6) (hi : i < n) : (hd ++ (List.range n).map fun j => if j < i then R j else O j).set (6 + i) (R i) = hd ++ (List.range n).map fun j => if j < i + 1 then R j else O j := by
  apply List.ext_getElem?
  intro k
  by_cases hk : k = 6 + i
  · subst hk
    rw [List.getElem?_set_self (by simp [h6]; omega), List.getElem?_append_right (by omega), h6, show 6 + i - 6 = i by omega, List.getElem?_map, List.getElem?_range hi]
    show _ = some (if i < i + 1 then R i else O i)
    rw [if_pos (by omega)]
  · rw [List.getElem?_set_ne (fun z => hk z.symm)]
    by_cases h : k < 6
    · rw [List.getElem?_append_left (by omega), List.getElem?_append_left (by omega)]
    · rw [List.getElem?_append_right (by omega), List.getElem?_append_right (by omega), h6, List.getElem?_map, List.getElem?_map]
      by_cases hn : k - 6 < n
      · rw [List.getElem?_range hn]
        show some (if k - 6 < i then R (k - 6) else O (k - 6)) = some (if k - 6 < i + 1 then R (k - 6) else O (k - 6))
        by_cases hl : k - 6 < i
        · rw [if_pos hl, if_pos (by omega)]
        · rw [if_neg hl, if_neg (by omega)]
      · rw [List.getElem?_eq_none (by rw [List.length_range]; omega)]
        rfl
theorem st_sub {σ : L2.St} {H : Hp} {D : Ends} {tv tl tk : TE} {v : V} {T : Addr} {xs : List V} {z : Int} {j : Nat} (hv : Val tv σ H v) (hl : Val tl σ H (.ref T)) (hk : Val tk σ H (.int z)) (hT : H T = some (.lst xs)) (hj : ixN xs.length z = some j) (q : D.nx σ (upd H T (.lst (xs.set j v)))) : tAsg tv (gSub tl tk rSetL) D σ H :=
  hv _ (hl _ (hk _ ⟨T, xs, z, j, rfl, rfl, hT, hj, q⟩))
theorem e_or {σ : L2.St} {H : Hp} {t u : TT} {Q : Bool → Hp → Prop} (h : t σ H fun b H1 => if b = true then Q true H1 else u σ H1 Q) : tOr t u σ H Q := h
/-- H without N and T -/
def hid2 (H : Hp) (N T : Addr) : Hp := hide (hide H N) T
theorem hid2_at {H : Hp} {N T b : Addr} {o : HO} (h : H b = some o) (n : b ≠ N) (m : b ≠ T) : hid2 H N T b = some o := hide_at (hide_at h n) m
theorem hid2_le {H : Hp} {N T : Addr} : Same (hid2 H N T) H := hide_le.trans hide_le
theorem hid2_to {H H' : Hp} {N T : Addr} (f : ∀ b o, H b = some o → b ≠ N → b ≠ T → H' b = some o) : Same (hid2 H N T) (hid2 H' N T) := fun b o h => by
  have h1 := hide_ne h
  have h2 := hide_ne (hide_le b o h)
  exact hid2_at (f b o (hid2_le b o h) h2 h1) h2 h1
theorem sharing_rest {H : Hp} {Q : VK} {a L T : Addr} {f : Nat → Int} {kd : Nat} {th lo : Bool} (ha : H a = some (.lst (rowI 21 f))) (k4 : kd < 4) (nT : H T = none) (q : ∀ (nm : Str) (p : Pr) (H' : Hp), NameOk nm → p.Ok → Same H H' → Q (.str (ptext nm p)) H') :
  ∀ H7 : Hp, Same H H7 → H7 T = some (.lst ((shX th lo kd).map V.str)) → (tSeq (tAsg (tLst (tCons (tLst tNil) (tCons (tLst (tCons (tTup (tCons (tC (.int 2)) (tCons (tC (.str "giveread")) tNil))) (tCons (tTup (tCons (tC (.int 2)) (tCons (tC (.str "cleanread")) tNil))) (tCons (tTup (tCons (tC (.int 2)) (tCons (tC (.str "givesteal")) tNil))) (tCons (tTup (tCons (tC (.int 2)) (tCons (tC (.str "back")) tNil))) tNil))))) tNil))) (gName 5))
    (tSeq (tDrop (tBM e.K "list" rAppend (tVar 5) (tCons (tLst (tCons (tTup (tCons (tC (.int 3)) (tCons (tC (.str "giveread")) tNil))) (tCons (tTup (tCons (tC (.int 3)) (tCons (tC (.str "cleanread")) tNil))) (tCons (tTup (tCons (tC (.int 3)) (tCons (tC (.str "givesteal")) tNil))) (tCons (tTup (tCons (tC (.int 3)) (tCons (tC (.str "back")) tNil))) tNil))))) tNil)))
    (tSeq (tDrop (tBM e.K "list" rAppend (tVar 5) (tCons (tLst (tCons (tTup (tCons (tC (.int 3)) (tCons (tC (.str "giveread")) tNil))) (tCons (tTup (tCons (tC (.int 3)) (tCons (tC (.str "givesteal")) tNil))) (tCons (tTup (tCons (tC (.int 3)) (tCons (tC (.str "back")) tNil))) (tCons (tTup (tCons (tC (.int 4)) (tCons (tC (.str "giveread")) tNil))) (tCons (tTup (tCons (tC (.int 4)) (tCons (tC (.str "givesteal")) tNil))) (tCons (tTup (tCons (tC (.int 4)) (tCons (tC (.str "back")) tNil))) tNil))))))) tNil)))
    (tSeq (tAsg (tLst (tCons (tC (.str "giveread")) (tCons (tC (.str "cleanread")) (tCons (tC (.str "givesteal")) (tCons (tC (.str "cleansteal")) (tCons (tC (.str "back")) tNil)))))) (gName 6))
    (tSeq (tFor (iRng2 (tCons (tC (.int 1)) (tCons (tOp (rI0 fun i j => .int (i + j)) (tVar 1) (tC (.int 2))) tNil))) (gName 7)
    (tSeq (tAsg (tOp rAddStr (tC (.str "state ")) (tOp (rIxL e.K) (tVar 4) (tOp (rI0 fun i j => .int (i + j)) (tC (.int 5)) (tVar 7)))) (gName 8))
    (tSeq (tFor (iRng1 (tCons (tC (.int 5)) tNil)) (gName 9)
    (tIfS (tOr (tTest (tOp (rInD e.K) (tTup (tCons (tVar 7) (tCons (tOp (rIxL e.K) (tVar 6) (tVar 9)) tNil))) (tOp (rIxL e.K) (tVar 5) (tVar 1)))) (tAnd (tTest (tOp rEq (tOp (rI0 fun i j => .int (Builtin.bitAnd i j)) (tOp (rI (fun _ j => 0 ≤ j) fun i j => .int (i / 2 ^ j.toNat)) (tOp (rIxL e.K) (tVar 0) (tOp (rI0 fun i j => .int (i + j)) (tC (.int 2)) (tVar 7))) (tVar 9)) (tC (.int 1))) (tC (.int 1)))) (tTest (tOp rEq (tOp (rI (fun _ j => 0 < j) fun i j => .int (i % j)) (tOp (rIxL e.K) (tVar 0) (tC (.int 3))) (tC (.int 2))) (tC (.int 0))))))
    (tAsg (tOp rAddStr (tOp rAddStr (tVar 8) (tC (.str " "))) (tOp (rIxL e.K) (tVar 6) (tVar 9))) (gName 8))
    tNext))
    (tAsg (tVar 8) (gSub (tVar 4) (tOp (rI0 fun i j => .int (i + j)) (tC (.int 5)) (tVar 7)) rSetL)))))
    (tRet (tJoin e.K (tC (.str "\n")) (tVar 4)))))))) { nx := fun _ H' => Q .non H', rt := Q } [some (.ref a), some (.int (kd : Int)), some (.str (thS th)), some (.ref L), some (.ref T), none, none, none, none, none] H7 := by
  have ix : ∀ (k : Nat) (σ : L2.St) (H' : Hp) (tk : TE), Same H H' → σ[0]? = some (some (.ref a)) → Val tk σ H' (.int (k : Int)) → k < 21 → Val (tOp (rIxL e.K) (tVar 0) tk) σ H' (.int (f k)) := fun k σ H' tk s h0 hk lk => v_ixL (v_var h0) hk (s _ _ ha) (row_get (g := V.int) lk)
  intro H7 s7 t7
  have ad2 : ∀ (i : Int) (x : Str), AD e.K (tTup (tCons (tC (.int i)) (tCons (tC (.str x)) tNil))) (pr2 i x) := fun i x => ad_tup (ad_cons ad_int (ad_cons ad_str ad_nil)) (by show 2 ≤ 1000; decide)
  refine st_seq (st_asg (e_lstx ?_))
  refine (ad_cons (ad_lst ad_nil (by show 0 ≤ 1000; decide)) (ad_cons (ad_lst (ad_cons (ad2 _ _) (ad_cons (ad2 _ _) (ad_cons (ad2 _ _) (ad_cons (ad2 _ _) ad_nil)))) (by show 4 ≤ 1000; decide)) ad_nil)) _ H7 _ fun vs H8 s8 d8 => ⟨?_, fun N nN => ?_⟩
  · rw [DpAll.len d8]
    show 2 ≤ sizeLine
    decide
  have l8' := DpAll.len d8
  have l8' : vs.length = 2 := l8'
  have t8 := s8 _ _ t7
  have nTN : T ≠ N := ne_of_none t8 nN
  have nN0 : H N = none := (s7.trans s8).free nN
  have sN := same_new (o := .lst vs) nN
  have hN9 : upd H8 N (.lst vs) N = some (.lst vs) := upd_same
  have d9 : DpAll e.K (hid2 (upd H8 N (.lst vs)) N T) vs [.list (shD 0), .list (shD 1)] := DpAll.mono (fun b o hb => hid2_at (sN _ _ (mi_le _ _ hb)) (ne_of_none (mi_le _ _ hb) nN) fun z => by
    have := (mi_some hb).2
    rw [z, t7] at this
    cases this) d8
  have s9 := s7.trans (s8.trans sN)
  have t9 := sN _ _ t8
  generalize upd H8 N (.lst vs) = H9 at *
  dsimp only
  -- one more list of pairs
  have more : ∀ (G : Hp) (ws : List V) (ds : List PyData) (te : TE) (d : PyData) (σ : L2.St) (D : Ends), AD e.K te d → G N = some (.lst ws) → ws.length ≤ 100 → G T = some (.lst ((shX th lo kd).map V.str)) → Same H G → DpAll e.K (hid2 G N T) ws ds → σ[5]? = some (some (.ref N)) →
      (∀ (v : V) (G' : Hp), G' N = some (.lst (ws ++ [v])) → G' T = some (.lst ((shX th lo kd).map V.str)) → Same H G' → DpAll e.K (hid2 G' N T) (ws ++ [v]) (ds ++ [d]) → D.nx σ G') → tDrop (tBM e.K "list" rAppend (tVar 5) (tCons te tNil)) D σ G := by
    intro G ws ds te d σ D ad gN wl gT sG dG h5 qq
    refine st_append (v_var h5) gN ?_
    refine ad σ G _ fun v G1 g1 dv => ?_
    have gN1 := g1 _ _ gN
    have gT1 := g1 _ _ gT
    refine ⟨N, ws, v, rfl, rfl, gN1, Nat.lt_of_lt_of_le (show ws.length < 1000 by omega) (by decide), qq v _ upd_same (by rw [upd_ne nTN]; exact gT1) (fun b o hb => by rw [upd_ne (ne_of_none hb nN0)]; exact g1 _ _ (sG _ _ hb)) ?_⟩
    refine DpAll.snoc (DpAll.mono (hid2_to fun b o hb n1 n2 => by rw [upd_ne n1]; exact g1 _ _ hb) dG) (Dp.mono (fun b o hb => ?_) dv)
    have nb : b ≠ N := fun z => by
      have := (mi_some hb).2
      rw [z, gN] at this
      cases this
    exact hid2_at (by rw [upd_ne nb]; exact mi_le _ _ hb) nb fun z => by
      have := (mi_some hb).2
      rw [z, gT] at this
      cases this
  refine st_seq (more H9 vs _ _ (.list (shD 2)) _ _ (ad_lst (ad_cons (ad2 _ _) (ad_cons (ad2 _ _) (ad_cons (ad2 _ _) (ad_cons (ad2 _ _) ad_nil)))) (by show 4 ≤ 1000; decide)) hN9 (by omega) t9 s9 d9 rfl fun v2 G1 gN1 gT1 gs1 gd1 => ?_)
  dsimp only
  refine st_seq (more G1 _ _ _ (.list (shD 3)) _ _ (ad_lst (ad_cons (ad2 _ _) (ad_cons (ad2 _ _) (ad_cons (ad2 _ _) (ad_cons (ad2 _ _) (ad_cons (ad2 _ _) (ad_cons (ad2 _ _) ad_nil)))))) (by show 6 ≤ 1000; decide)) gN1 (by rw [List.length_append]; show vs.length + 1 ≤ 100; omega) gT1 gs1 gd1 rfl fun v3 G2 gN2 gT2 gs2 gd2 => ?_)
  dsimp only
  refine st_seq (st_asg (e_lst (arg_cons val_c (arg_cons val_c (arg_cons val_c (arg_cons val_c (arg_cons val_c arg_nil))))) (by show 5 ≤ 1000; decide) fun M nM => ?_))
  have sM := same_new (o := .lst [V.str "giveread", .str "cleanread", .str "givesteal", .str "cleansteal", .str "back"]) nM
  have hM : upd G2 M (.lst [V.str "giveread", .str "cleanread", .str "givesteal", .str "cleansteal", .str "back"]) M = some (.lst [V.str "giveread", .str "cleanread", .str "givesteal", .str "cleansteal", .str "back"]) := upd_same
  have gN3 := sM _ _ gN2
  have gT3 := sM _ _ gT2
  have gs3 := gs2.trans sM
  have gd3 : DpAll e.K (hid2 (upd G2 M (.lst [V.str "giveread", .str "cleanread", .str "givesteal", .str "cleansteal", .str "back"])) N T) (vs ++ [v2] ++ [v3]) ([.list (shD 0), .list (shD 1)] ++ [.list (shD 2)] ++ [.list (shD 3)]) := DpAll.mono (hid2_to fun b o hb _ _ => sM _ _ hb) gd2
  have nMT : M ≠ T := (ne_of_none gT2 nM).symm
  have nMN : M ≠ N := (ne_of_none gN2 nM).symm
  generalize upd G2 M (.lst [V.str "giveread", .str "cleanread", .str "givesteal", .str "cleansteal", .str "back"]) = G3 at *
  obtain ⟨vn, hvn, dn⟩ : ∃ vn, (vs ++ [v2] ++ [v3])[kd]? = some vn ∧ Dp e.K (hid2 G3 N T) vn (.list (shD kd)) := by
    obtain ⟨v, d, e1, _, e3, e4⟩ := DpAll.at (i := kd) gd3 (by show kd < 4; exact k4)
    refine ⟨v, e1, ?_⟩
    have e5 : d = .list (shD kd) := by
      have : kd = 0 ∨ kd = 1 ∨ kd = 2 ∨ kd = 3 := by omega
      rcases this with rfl | rfl | rfl | rfl <;> exact (Option.some.inj e3).symm
    rw [← e5]
    exact e4
  generalize vs ++ [v2] ++ [v3] = ns at *
  dsimp only
  -- the rows
  obtain ⟨hb1, hb2, hb3, hb4⟩ := sh_bounds kd k4
  let B : Nat → Nat → Bool := fun i j => ((shD kd).any fun z => PyData.eqv z (pr2 ((1 + i : Nat) : Int) (FL.getD j ""))) || (decide (Builtin.bitAnd (f (2 + (1 + i)) / 2 ^ ((j : Int)).toNat) 1 = 1) && decide (f 3 % 2 = 0))
  let rows : Nat → Str := fun s => Txt.join " " ([("state" : Str), dg (s + 1), dg (shW kd s), dg (shR kd s), dg 0] ++ upF (B s) 5)
  have h6 : (shH th lo kd).length = 6 := rfl
  have dl : ∀ x, x < 1000 → (dg x).length ≤ 3 := fun x h => dg_le x h
  have vhi : Val (tOp (rI0 fun i j => .int (i + j)) (tVar 1) (tC (.int 2))) [some (.ref a), some (.int (kd : Int)), some (.str (thS th)), some (.ref L), some (.ref T), some (.ref N), some (.ref M), none, none, none] G3 (.int ((1 + (kd + 1) : Nat) : Int)) := v_is (v_add (v_var rfl) val_c) (congrArg V.int (by omega))
  refine st_seq (st_forRL (n := kd + 1) (lo := 1) val_c vhi (by omega) (fun i σ H' => ∃ z7 z8 z9, σ = [some (.ref a), some (.int (kd : Int)), some (.str (thS th)), some (.ref L), some (.ref T), some (.ref N), some (.ref M), z7, z8, z9] ∧ Same H H' ∧ H' N = some (.lst ns) ∧ H' M = some (.lst [V.str "giveread", .str "cleanread", .str "givesteal", .str "cleansteal", .str "back"]) ∧ Same (hid2 G3 N T) (hid2 H' N T) ∧
    H' T = some (.lst ((shH th lo kd ++ (List.range (kd + 1)).map fun j => if j < i then rows j else shO kd j).map V.str))) ⟨_, _, _, rfl, gs3, gN3, hM, fun _ _ z => z, ?_⟩ ?_ ?_)
  · rw [gT3, sh_eq th lo kd k4]
    rfl
  · rintro i σ H' hi ⟨z7, z8, z9, rfl, s', hN', hM', hh, hT'⟩
    have ws : shW kd i ≤ kd + 1 := hb3 i (by omega)
    have rs : shR kd i ≤ kd + 1 := hb4 i (by omega)
    have d1 := dl (i + 1) (by omega)
    have d2 := dl (shW kd i) (by omega)
    have d3 := dl (shR kd i) (by omega)
    have d4 := dl 0 (by omega)
    have l6 : ("state " : Str).length = 6 := rfl
    have l1 : (" " : Str).length = 1 := rfl
    have i5 : ∀ (σ : L2.St) (G : Hp), σ[7]? = some (some (.int ((1 + i : Nat) : Int))) → Val (tOp (rI0 fun i j => .int (i + j)) (tC (.int 5)) (tVar 7)) σ G (.int ((6 + i : Nat) : Int)) := fun σ G h => v_is (v_add val_c (v_var h)) (congrArg V.int (by omega))
    have at6 : ((shH th lo kd ++ (List.range (kd + 1)).map fun j => if j < i then rows j else shO kd j).map V.str)[6 + i]? = some (.str (shO kd i)) := by
      rw [List.getElem?_map, List.getElem?_append_right (by rw [h6]; omega), h6, show 6 + i - 6 = i by omega, List.getElem?_map, List.getElem?_range hi]
      show some (V.str (if i < i then rows i else shO kd i)) = _
      rw [if_neg (Nat.lt_irrefl i)]
    have el : ("state " : Str) ++ shO kd i = Txt.join " " ([("state" : Str), dg (i + 1), dg (shW kd i), dg (shR kd i), dg 0] ++ upF (B i) 0) := by
      rw [show ([("state" : Str), dg (i + 1), dg (shW kd i), dg (shR kd i), dg 0] ++ upF (B i) 0) = [("state" : Str), dg (i + 1), dg (shW kd i), dg (shR kd i), dg 0] from rfl, row_base]
      unfold shO
      simp only [sapp_assoc]
    have lO := shO_len kd k4 i hi
    refine st_seq (st_set (v_is (v_addS val_c (v_ixL (v_var rfl) (i5 _ _ rfl) hT' at6) (by rw [l6]; omega)) (congrArg V.str el)) ?_)
    dsimp only
    refine st_seq (st_forR (n := 5) val_c (by omega) (fun j σ H6 => ∃ z9, σ = [some (.ref a), some (.int (kd : Int)), some (.str (thS th)), some (.ref L), some (.ref T), some (.ref N), some (.ref M), some (.int ((1 + i : Nat) : Int)), some (.str (Txt.join " " ([("state" : Str), dg (i + 1), dg (shW kd i), dg (shR kd i), dg 0] ++ upF (B i) j))), z9] ∧ Same H' H6) ⟨_, rfl, fun _ _ z => z⟩ ?_ ?_)
    · rintro j σ H6 hj ⟨z, rfl, s6'⟩
      have len := line_len d1 d2 d3 d4 (B i) (i := j) (by omega)
      have e1 := upF_succ (B i) j
      have vn5 : ∀ (σ : L2.St) (G : Hp), Same H' G → σ[6]? = some (some (.ref M)) → σ[9]? = some (some (.int (j : Int))) → Val (tOp (rIxL e.K) (tVar 6) (tVar 9)) σ G (.str (FL.getD j "")) := fun σ G s h6 h9 => v_ixLs (v_var h6) (v_var h9) (SqL.of (s _ _ hM')) (FL_at hj)
      have fin : ∀ G, Same H6 G → (if B i j = true then (tAsg (tOp rAddStr (tOp rAddStr (tVar 8) (tC (.str " "))) (tOp (rIxL e.K) (tVar 6) (tVar 9))) (gName 8)) else tNext)
          { nx := fun σ H6 => ∃ z9, σ = [some (.ref a), some (.int (kd : Int)), some (.str (thS th)), some (.ref L), some (.ref T), some (.ref N), some (.ref M), some (.int ((1 + i : Nat) : Int)), some (.str (Txt.join " " ([("state" : Str), dg (i + 1), dg (shW kd i), dg (shR kd i), dg 0] ++ upF (B i) (j + 1)))), z9] ∧ Same H' H6, rt := Q }
          [some (.ref a), some (.int (kd : Int)), some (.str (thS th)), some (.ref L), some (.ref T), some (.ref N), some (.ref M), some (.int ((1 + i : Nat) : Int)), some (.str (Txt.join " " ([("state" : Str), dg (i + 1), dg (shW kd i), dg (shR kd i), dg 0] ++ upF (B i) j))), some (.int (j : Int))] G := by
        intro G sG
        cases hB : B i j with
        | true =>
          rw [hB, if_pos rfl] at e1
          rw [if_pos rfl]
          have lf := FL_len hj
          refine st_set (v_addS (v_addS (v_var rfl) val_c (by rw [l1]; omega)) (vn5 _ _ (s6'.trans sG) rfl rfl) (by rw [sapp_len, l1]; omega)) ⟨some (.int (j : Int)), ?_, s6'.trans sG⟩
          rw [e1, ← List.append_assoc, join_snoc _ _ (by simp)]
          rfl
        | false =>
          rw [hB, if_neg (by decide), List.append_nil] at e1
          rw [if_neg (by decide)]
          refine st_next ⟨some (.int (j : Int)), ?_, s6'.trans sG⟩
          rw [e1]
      have fin2 : ∀ (b : Bool) G, b = B i j → Same H6 G → (if b = true then (tAsg (tOp rAddStr (tOp rAddStr (tVar 8) (tC (.str " "))) (tOp (rIxL e.K) (tVar 6) (tVar 9))) (gName 8)) { nx := fun σ H6 => ∃ z9, σ = [some (.ref a), some (.int (kd : Int)), some (.str (thS th)), some (.ref L), some (.ref T), some (.ref N), some (.ref M), some (.int ((1 + i : Nat) : Int)), some (.str (Txt.join " " ([("state" : Str), dg (i + 1), dg (shW kd i), dg (shR kd i), dg 0] ++ upF (B i) (j + 1)))), z9] ∧ Same H' H6, rt := Q }
          [some (.ref a), some (.int (kd : Int)), some (.str (thS th)), some (.ref L), some (.ref T), some (.ref N), some (.ref M), some (.int ((1 + i : Nat) : Int)), some (.str (Txt.join " " ([("state" : Str), dg (i + 1), dg (shW kd i), dg (shR kd i), dg 0] ++ upF (B i) j))), some (.int (j : Int))] G else tNext { nx := fun σ H6 => ∃ z9, σ = [some (.ref a), some (.int (kd : Int)), some (.str (thS th)), some (.ref L), some (.ref T), some (.ref N), some (.ref M), some (.int ((1 + i : Nat) : Int)), some (.str (Txt.join " " ([("state" : Str), dg (i + 1), dg (shW kd i), dg (shR kd i), dg 0] ++ upF (B i) (j + 1)))), z9] ∧ Same H' H6, rt := Q }
          [some (.ref a), some (.int (kd : Int)), some (.str (thS th)), some (.ref L), some (.ref T), some (.ref N), some (.ref M), some (.int ((1 + i : Nat) : Int)), some (.str (Txt.join " " ([("state" : Str), dg (i + 1), dg (shW kd i), dg (shR kd i), dg 0] ++ upF (B i) j))), some (.int (j : Int))] G) := by
        intro b G hb sG
        have := fin G sG
        rw [← hb] at this
        cases b with
        | true => exact this
        | false => exact this
      refine st_ifx (e_or (e_test ?_))
      refine e_tup (arg_cons (v_var rfl) (arg_cons (vn5 _ _ s6' rfl rfl) arg_nil)) (by show 2 ≤ 1000; decide) fun p hp => ?_
      have sp := same_new (o := .tup [.int ((1 + i : Nat) : Int), .str (FL.getD j "")]) hp
      have sP : Same H' _ := s6'.trans sp
      refine v_ixL (v_var rfl) (v_var rfl) (sP _ _ hN') hvn _ ?_
      have dvn : Dp e.K _ vn (.list (shD kd)) := Dp.mono (hid2_le.trans sP) (Dp.mono hh dn)
      have dpp : Dp e.K (upd H6 p (.tup [.int ((1 + i : Nat) : Int), .str (FL.getD j "")])) (.ref p) (pr2 ((1 + i : Nat) : Int) (FL.getD j "")) := .tup (SqT.of upd_same) (.cons (.int _) (.cons (.str _) .nil))
      have shp : SeqAt.shaped (pr2 ((1 + i : Nat) : Int) (FL.getD j "")) = true := by
        unfold SeqAt.shaped pr2
        rw [Bool.and_eq_true]
        refine ⟨?_, decide_eq_true (by simp [PyData.depth, PyData.depthAll])⟩
        simp only [PyData.canLay0, PyData.canLayAll0, FL_sh j hj, Bool.and_self]
      refine ⟨_, _, dpp, dvn, shp, shD_sh kd k4, _, rfl, ?_⟩
      cases hany : (shD kd).any fun z => PyData.eqv z (pr2 ((1 + i : Nat) : Int) (FL.getD j "")) with
      | true =>
        refine iteT (fin2 true _ ?_ sp)
        show true = (((shD kd).any fun z => PyData.eqv z (pr2 ((1 + i : Nat) : Int) (FL.getD j ""))) || _)
        rw [hany, Bool.true_or]
      | false =>
        refine iteF ?_
        refine ans_and2 (a_eqI (v_and (v_shr (ix (2 + (1 + i)) _ _ _ (s'.trans sP) rfl (v_is (v_add val_c (v_var rfl)) (congrArg V.int (by omega))) (by omega)) (v_var rfl) (by omega)) val_c) val_c rfl) (a_eqI (v_mod (ix 3 _ _ _ (s'.trans sP) rfl val_c (by decide)) val_c (by decide)) val_c rfl) _ (fin2 _ _ ?_ sp)
        show _ = (((shD kd).any fun z => PyData.eqv z (pr2 ((1 + i : Nat) : Int) (FL.getD j ""))) || _)
        rw [hany, Bool.false_or]
    · rintro σ H6 ⟨z, rfl, s6'⟩
      refine st_sub (j := 6 + i) (v_var rfl) (v_var rfl) (i5 _ _ rfl) (s6' _ _ hT') ?_ ?_
      · unfold ixN
        rw [List.length_map, List.length_append, List.length_map, List.length_range, h6, if_pos (by omega), if_pos (by omega)]
        rfl
      · refine ⟨_, _, _, rfl, fun b o hb => by rw [upd_ne (ne_of_none hb nT)]; exact s6' _ _ (s' _ _ hb), by rw [upd_ne nTN.symm]; exact s6' _ _ hN', by rw [upd_ne nMT]; exact s6' _ _ hM', hh.trans (hid2_to fun b o hb _ n2 => by rw [upd_ne n2]; exact s6' _ _ hb), ?_⟩
        rw [upd_same, ← List.map_set]
        exact congrArg (fun z => some (HO.lst (z.map V.str))) (told_set h6 hi)
  · rintro σ H' ⟨z7, z8, z9, rfl, s', hN', hM', hh, hT'⟩
    dsimp only
    refine st_rt ?_
    have er : ((List.range (kd + 1)).map fun j => if j < kd + 1 then rows j else shO kd j) = (List.range (kd + 1)).map rows := List.map_congr_left fun j hj => if_pos (List.mem_range.mp hj)
    rw [er] at hT'
    refine e_join (e := e) (v_var rfl) hT' (text_len (by rw [h6]; decide) (shH_len th lo kd k4) (by omega) fun i hi => ?_) ?_
    · have ws : shW kd i ≤ kd + 1 := hb3 i hi
      have rs : shR kd i ≤ kd + 1 := hb4 i hi
      exact line_len (dl _ (by omega)) (dl _ (by omega)) (dl _ (by omega)) (dl _ (by omega)) (B i) (Nat.le_refl 5)
    · have e1 : Txt.join "\n" (shH th lo kd ++ (List.range (kd + 1)).map rows) = ptext (shN kd) (mkP (kd + 1) (shLone lo kd) 1 (shOwn kd) (decide (kd = 0) || th) (shW kd) (shR kd) (fun _ => 0) B) := by
        unfold ptext
        rw [mkP_text]
        rfl
      rw [e1]
      exact q _ _ H' (shN_ok kd) (mkP_ok (by omega) (hb1 lo) ⟨by omega, by omega⟩ hb2 hb3 hb4 fun _ _ => Nat.zero_le _) s'
theorem p_law_sharing (vs : List V) (H : Hp) (Q : VK) (E : XK) (h : sp_law_sharing e vs H Q E) : t_law_sharing e { nx := fun _ H' => Q .non H', rt := Q } (start N_law_sharing vs) H := by
  obtain ⟨a, f, rfl, ha, hf, q⟩ := h
  have ix : ∀ (k : Nat) (σ : L2.St) (H' : Hp) (tk : TE), Same H H' → σ[0]? = some (some (.ref a)) → Val tk σ H' (.int (k : Int)) → k < 21 → Val (tOp (rIxL e.K) (tVar 0) tk) σ H' (.int (f k)) := fun k σ H' tk s h0 hk lk => v_ixL (v_var h0) hk (s _ _ ha) (row_get (g := V.int) lk)
  have rf : Same H H := fun _ _ z => z
  obtain ⟨kd, hkd⟩ : ∃ m : Nat, m = (f 0 % ((4 : Nat) : Int)).toNat := ⟨_, rfl⟩
  have k4 : kd < 4 := by rw [hkd]; exact modN_lt _ (by decide)
  refine st_seq (st_set (v_is (w := .int (kd : Int)) (v_modN (P := fun _ => True) (ix 0 _ _ _ rf rfl val_c (by decide)) val_c (by decide)) (by rw [hkd])) ?_)
  dsimp only
  -- through
  refine st_seq (st_asg (e_op (e_lst (arg_cons val_c (arg_cons val_c arg_nil)) (by show 2 ≤ 1000; decide) fun T0 nT0 => ?_)))
  have s1 := same_new (o := .lst [.str "no", .str "yes"]) nT0
  have hT0 : upd H T0 (.lst [.str "no", .str "yes"]) T0 = some (.lst [.str "no", .str "yes"]) := upd_same
  generalize upd H T0 (.lst [.str "no", .str "yes"]) = H1 at *
  obtain ⟨th, hth⟩ : ∃ b : Bool, b = decide (f 1 % 4 = 0) := ⟨_, rfl⟩
  have vb : Val (tOp rEq (tOp (rI (fun _ j => 0 < j) fun i j => .int (i % j)) (tOp (rIxL e.K) (tVar 0) (tC (.int 1))) (tC (.int 4))) (tC (.int 0))) [some (.ref a), some (.int (kd : Int)), none, none, none, none, none, none, none, none] H1 (.bl th) := val_op (v_mod (ix 1 _ _ _ s1 rfl val_c (by decide)) val_c (by decide)) val_c fun Q q => ⟨rfl, by rw [dec_int, ← hth]; exact q⟩
  refine v_intB vb _ ?_
  refine ⟨T0, _, _, .str (thS th), rfl, rfl, SqL.of hT0, by cases th <;> rfl, ?_⟩
  dsimp only
  have l8 : ("through " : Str).length = 8 := rfl
  have lth : (thS th).length ≤ 3 := by cases th <;> decide
  -- lines
  refine st_seq (st_asg (e_lstx (e_cons ?_)))
  refine e_lst (ys := (shL th 0).map V.str) (arg_cons val_c (arg_cons val_c (arg_cons val_c (arg_cons val_c (arg_cons val_c (arg_cons val_c (arg_cons val_c arg_nil))))))) (by show 7 ≤ 1000; decide) fun l0 n0 => ?_
  refine e_nil ⟨by show 1 ≤ sizeLine; decide, fun L nL => ?_⟩
  have s2 := s1.trans (same_new (o := .lst ((shL th 0).map V.str)) n0)
  have s3 : Same H (upd (upd H1 l0 (.lst ((shL th 0).map V.str))) L (.lst [.ref l0])) := s2.trans (same_new nL)
  have nL0 : H L = none := s2.free nL
  have c0 : (upd (upd H1 l0 (.lst ((shL th 0).map V.str))) L (.lst [.ref l0])) l0 = some (.lst ((shL th 0).map V.str)) := same_new nL _ _ upd_same
  have cL : (upd (upd H1 l0 (.lst ((shL th 0).map V.str))) L (.lst [.ref l0])) L = some (.lst [.ref l0]) := upd_same
  have n0L : l0 ≠ L := ne_of_none (upd_same (H := H1) (a := l0) (o := .lst ((shL th 0).map V.str))) nL
  have n00 : H l0 = none := s1.free n0
  generalize upd (upd H1 l0 (.lst ((shL th 0).map V.str))) L (.lst [.ref l0]) = H3 at *
  dsimp only
  have vth : ∀ (σ : L2.St) (H' : Hp), σ[2]? = some (some (.str (thS th))) → Val (tOp rAddStr (tC (.str "through ")) (tVar 2)) σ H' (.str ("through " ++ thS th)) := fun σ H' h => v_addS val_c (v_var h) (by rw [l8]; omega)
  refine st_seq (st_appL (ys := (shL th 1).map V.str) rfl cL (by show 1 ≤ 100; decide) (arg_cons val_c (arg_cons val_c (arg_cons val_c (arg_cons val_c (arg_cons val_c (arg_cons (vth _ _ rfl) (arg_cons val_c (arg_cons val_c arg_nil)))))))) (by show 8 ≤ 100; decide) fun l1 H4 n1 k4' c1 cL4 => ?_)
  dsimp only
  refine st_seq (st_appL (ys := (shL th 2).map V.str) rfl cL4 (by show 2 ≤ 100; decide) (arg_cons val_c (arg_cons val_c (arg_cons val_c (arg_cons val_c (arg_cons val_c (arg_cons (vth _ _ rfl) (arg_cons val_c (arg_cons val_c (arg_cons val_c arg_nil))))))))) (by show 9 ≤ 100; decide) fun l2 H5 n2 k5' c2 cL5 => ?_)
  dsimp only
  refine st_seq (st_appL (ys := (shL th 3).map V.str) rfl cL5 (by show 3 ≤ 100; decide) (arg_cons val_c (arg_cons val_c (arg_cons val_c (arg_cons val_c (arg_cons val_c (arg_cons (vth _ _ rfl) (arg_cons val_c (arg_cons val_c (arg_cons val_c (arg_cons val_c arg_nil)))))))))) (by show 10 ≤ 100; decide) fun l3 H6 n3 k6' c3 cL6 => ?_)
  dsimp only
  have n1L : l1 ≠ L := (ne_of_none cL n1).symm
  have n2L : l2 ≠ L := (ne_of_none cL4 n2).symm
  have n3L : l3 ≠ L := (ne_of_none cL5 n3).symm
  have s6 : Same H H6 := fun b o hb => k6' _ _ (k5' _ _ (k4' _ _ (s3 _ _ hb) (ne_of_none hb nL0)) (ne_of_none hb nL0)) (ne_of_none hb nL0)
  have b0 := k6' _ _ (k5' _ _ (k4' _ _ c0 n0L) n0L) n0L
  have b1 := k6' _ _ (k5' _ _ c1 n1L) n1L
  have b2 := k6' _ _ c2 n2L
  let lk : Nat → Addr := fun k => match k with
    | 0 => l0
    | 1 => l1
    | 2 => l2
    | _ => l3
  have hlk : H6 (lk kd) = some (.lst ((shL th kd).map V.str)) ∧ H (lk kd) = none := by
    have : kd = 0 ∨ kd = 1 ∨ kd = 2 ∨ kd = 3 := by omega
    have f3 : ∀ b, H3 b = none → H b = none := fun b z => s3.free z
    have f4 : ∀ b, H4 b = none → H b = none := fun b z => by
      cases hz : H b with
      | none => rfl
      | some o =>
        rw [k4' _ _ (s3 _ _ hz) (ne_of_none hz nL0)] at z
        cases z
    have f5 : ∀ b, H5 b = none → H b = none := fun b z => by
      cases hz : H b with
      | none => rfl
      | some o =>
        rw [k5' _ _ (k4' _ _ (s3 _ _ hz) (ne_of_none hz nL0)) (ne_of_none hz nL0)] at z
        cases z
    rcases this with rfl | rfl | rfl | rfl
    · exact ⟨b0, n00⟩
    · exact ⟨b1, f3 _ n1⟩
    · exact ⟨b2, f4 _ n2⟩
    · exact ⟨c3, f5 _ n3⟩
  have cLr : H6 L = some (.lst (rowR 4 lk)) := by
    rw [cL6]
    rfl
  refine st_seq (st_set (v_ixL (v_var rfl) (v_var rfl) cLr (row_get (g := V.ref) k4)) ?_)
  generalize lk kd = T at hlk
  obtain ⟨hT, nT⟩ := hlk
  dsimp only
  -- told[2]
  obtain ⟨lo, hlo⟩ : ∃ b : Bool, b = decide (f 2 % 4 = 0) := ⟨_, rfl⟩
  have key := sharing_rest (e := e) (L := L) (th := th) (lo := lo) ha k4 nT q
  refine st_seq (st_if (ans_and2 (a_gt (v_var rfl) val_c rfl) (a_eqI (v_mod (ix 2 _ _ _ s6 rfl val_c (by decide)) val_c (by decide)) val_c rfl)) (fun hb => ?_) fun hb => st_next (key H6 s6 ?_))
  · rw [← hlo, Bool.and_eq_true, decide_eq_true_eq] at hb
    have hk : 1 < kd := by omega
    refine val_c _ (v_var rfl _ (val_c _ ⟨T, _, 2, 2, rfl, rfl, hT, ?_, key _ (fun b o hb => by rw [upd_ne (ne_of_none hb nT)]; exact s6 _ _ hb) ?_⟩))
    · have : kd = 2 ∨ kd = 3 := by omega
      rcases this with rfl | rfl <;> rfl
    · rw [upd_same]
      unfold shX
      rw [if_pos ⟨hb.2, hk⟩, List.map_set]
  · have e1 : shX th lo kd = shL th kd := by
      unfold shX
      rw [if_neg]
      rintro ⟨h1, h2⟩
      rw [← hlo, h1, decide_eq_true (show (1 : Int) < (kd : Int) by omega)] at hb
      cases hb
    rw [e1]
    exact hT
end
end Cm
set_option maxHeartbeats 1000000
/-! One access in the law: all three bearers take it. -/
namespace Cm
open PySem PySem.Spec L2
def pDom (pp : Option (SR × Pr)) : List Addr := match pp with
  | none => []
  | some q => q.1.dom
def tDom (tt : Option (TR × Pr)) : List Addr := match tt with
  | none => []
  | some q => q.1.dom q.2.n
/-- what lies apart -/
structure LS (count words : Nat) (r : CR) (pa la : Addr) (pr : Nat → CR) (lr : Nat → LR) (pp : Option (SR × Pr)) (tt : Option (TR × Pr)) : Prop where
  rp : ∀ w, w < words → ∀ b, b ∈ r.dom count → b ∉ (pr w).dom count
  rl : ∀ w, w < words → ∀ b, b ∈ r.dom count → b ∉ (lr w).dom
  pl : ∀ v w, v < words → w < words → ∀ b, b ∈ (pr v).dom count → b ∉ (lr w).dom
  pq : ∀ v w, v < words → w < words → v ≠ w → ∀ b, b ∈ (pr v).dom count → b ∉ (pr w).dom count
  ll : ∀ v w, v < words → w < words → v ≠ w → ∀ b, b ∈ (lr v).dom → b ∉ (lr w).dom
  par : pa ∉ r.dom count
  pap : ∀ w, w < words → pa ∉ (pr w).dom count
  pal : ∀ w, w < words → pa ∉ (lr w).dom
  lar : la ∉ r.dom count
  lap : ∀ w, w < words → la ∉ (pr w).dom count
  lal : ∀ w, w < words → la ∉ (lr w).dom
  pdl : ∀ w, w < words → ∀ b, b ∈ pDom pp → b ∉ (lr w).dom
  tdr : ∀ b, b ∈ tDom tt → b ∉ r.dom count
  tdp : ∀ w, w < words → ∀ b, b ∈ tDom tt → b ∉ (pr w).dom count
  tdl : ∀ w, w < words → ∀ b, b ∈ tDom tt → b ∉ (lr w).dom
structure LW (e : En) (H : Hp) (count words : Nat) (r : CR) (pa la : Addr) (pr : Nat → CR) (lr : Nat → LR) (pp : Option (SR × Pr)) (pv : V) (tt : Option (TR × Pr)) (tv : V) (X : Nat → Col) : Prop where
  cp : CPat e H count words r pp pv X
  ps : PAat e H count words pa pr pp pv X
  lg : LGat H count words la lr X
  tp : TPat H [] tt tv
section
variable {e : En} {H H' : Hp} {count words : Nat} {r : CR} {pa la : Addr} {pr : Nat → CR} {lr : Nat → LR} {pp : Option (SR × Pr)} {pv tv : V} {tt : Option (TR × Pr)} {X : Nat → Col}
theorem CAat.congr {Y : Nat → Col} (h : CAat e H count words r pv X) (f : ∀ w, w < words → X w = Y w) : CAat e H count words r pv Y :=
  ⟨h.ob, by rw [h.hm]; exact congrArg (fun z => some (HO.lst z)) (row_congr fun w hw => by rw [f w hw]), h.hS, h.hC, fun k hk => by rw [h.hs k hk]; exact congrArg (fun z => some (HO.lst z)) (row_congr fun w hw => by rw [f w hw]), fun k hk => by rw [h.hc k hk]; exact congrArg (fun z => some (HO.lst z)) (row_congr fun w hw => by rw [f w hw]), h.nd⟩
theorem PPat.to {F G : List Addr} (h : PPat e H F pp pv) (f : ∀ b o, b ∈ pDom pp → H b = some o → H' b = some o) (n : ∀ b, b ∈ pDom pp → b ∉ G) : PPat e H' G pp pv := by
  cases pp with
  | none => exact h
  | some q => exact ⟨h.1, h.2.1.frame f, h.2.2.1, n⟩
theorem PPat.dj {F : List Addr} (h : PPat e H F pp pv) : ∀ b, b ∈ pDom pp → b ∉ F := by
  cases pp with
  | none => exact fun b hb => nomatch hb
  | some q => exact h.2.2.2
theorem TPat.fr2 {F G : List Addr} (h : TPat H F tt tv) (f : ∀ b o, b ∈ tDom tt → H b = some o → H' b = some o) (n : ∀ b, b ∈ tDom tt → b ∉ G) : TPat H' G tt tv := by
  cases tt with
  | none => exact h
  | some q => exact ⟨h.1, h.2.1.frame f, h.2.2.1, n⟩
theorem CPat.fr {F : List Addr} (h : CPat e H count words r pp pv X) (f : Fr F H H') (d : ∀ b, b ∈ r.dom count → b ∉ F) (d2 : ∀ b, b ∈ pDom pp → b ∉ F) : CPat e H' count words r pp pv X :=
  ⟨h.ca.fr f d, h.pr.to (fun b o hb z => f b o z (d2 b hb)) h.pr.dj, h.ok⟩
theorem LW.same (h : LW e H count words r pa la pr lr pp pv tt tv X) (s : Same H H') : LW e H' count words r pa la pr lr pp pv tt tv X :=
  ⟨h.cp.same s, ⟨s _ _ h.ps.hd, fun w hw => (h.ps.at_ w hw).same s⟩, ⟨s _ _ h.lg.1, fun w hw => (h.lg.2 w hw).same s⟩, h.tp.fr2 (fun b o _ z => s b o z) fun b _ m => nomatch m⟩
/-- the value's data, the same in every heap -/
theorem dp_any {K : PySem.W.Frag} {p : Option Pr} {count : Nat} {a : Acc} {x : Col} : ∃ d, smd 10 d ∧ ∀ H : Hp, Dp K H (stepV p count a x) d := by
  obtain ⟨ak, c, w, cov, v⟩ := a
  cases p with
  | none =>
    cases ak
    · exact ⟨.int x.m, True.intro, fun _ => .int _⟩
    · exact ⟨.int x.m, True.intro, fun _ => .int _⟩
    · exact ⟨.none, True.intro, fun _ => .non⟩
  | some p =>
    cases ak
    · exact ⟨.int ((ldC p count c x).c c), True.intro, fun _ => .int _⟩
    · exact ⟨.int ((ownedC p count c x).c c), True.intro, fun _ => .int _⟩
    · exact ⟨.none, True.intro, fun _ => .non⟩
theorem okW (h : LW e H count words r pa la pr lr pp pv tt tv X) (hE : tt.map (·.2) = pp.map (·.2)) : ∀ w, (X w).Ok (pN tt) := fun w => by
  have e1 : pN tt = pN pp := by
    cases tt <;> cases pp <;> first | rfl | cases hE | exact congrArg Pr.n (Option.some.inj hE)
  rw [e1]
  exact h.cp.ok w
/-- the lines take it -/
theorem LW.line {w : Nat} {x : Col} (hw : w < words) (h : LW e H count words r pa la pr lr pp pv tt tv X) (S : LS count words r pa la pr lr pp tt) (f : Fr (lr w).dom H H') (ln : LNat H' count (lr w) x) :
    CPat e H' count words r pp pv X ∧ PAat e H' count words pa pr pp pv X ∧ LGat H' count words la lr (setW X w x) ∧ TPat H' [] tt tv := by
  refine ⟨h.cp.fr f (S.rl w hw) (S.pdl w hw), ⟨f _ _ h.ps.hd (S.pal w hw), fun v hv => (h.ps.at_ v hv).fr f (S.pl v w hv hw) (S.pdl w hw)⟩, ⟨f _ _ h.lg.1 (S.lal w hw), fun v hv => ?_⟩, h.tp.fr2 (fun b o hb z => f b o z (S.tdl w hw b hb)) fun b _ m => nomatch m⟩
  by_cases e1 : v = w
  · subst e1
    rw [setW_same]
    exact ln
  · have : setW X w x v = X v := fset_ne e1
    rw [this]
    exact (h.lg.2 v hv).frame fun b o hb z => f b o z (S.ll v w hv hw e1 b hb)
theorem LW.cache {w : Nat} {x : Col} {H1 H2 : Hp} (hw : w < words) (S : LS count words r pa la pr lr pp tt) (okx : x.Ok (pN pp)) (c1 : CPat e H1 count words r pp pv X) (p1 : PAat e H1 count words pa pr pp pv X) (l1 : LGat H1 count words la lr (setW X w x)) (t1 : TPat H1 [] tt tv)
    (ca : CAat e H2 count words r pv (setW X w x)) (f : Fr (r.dom count) H1 H2) : CPat e H2 count words r pp pv (setW X w x) ∧ PAat e H2 count words pa pr pp pv X ∧ LGat H2 count words la lr (setW X w x) ∧ TPat H2 [] tt tv := by
  refine ⟨⟨ca, c1.pr.fr f, fun v => ?_⟩, ⟨f _ _ p1.hd S.par, fun v hv => (p1.at_ v hv).fr f (fun b hb m => S.rp v hv b m hb) c1.pr.dj⟩, ⟨f _ _ l1.1 S.lar, fun v hv => (l1.2 v hv).frame fun b o hb z => f b o z fun m => S.rl v hv b m hb⟩, t1.fr2 (fun b o hb z => f b o z (S.tdr b hb)) fun b _ m => nomatch m⟩
  unfold setW fset
  split
  · exact okx
  · exact c1.ok v
theorem LW.part {w : Nat} {x : Col} {H2 H3 : Hp} (hw : w < words) (S : LS count words r pa la pr lr pp tt) (okx : x.Ok (pN pp)) (c2 : CPat e H2 count words r pp pv (setW X w x)) (p2 : PAat e H2 count words pa pr pp pv X) (l2 : LGat H2 count words la lr (setW X w x)) (t2 : TPat H2 [] tt tv)
    (ca : CAat e H3 count 1 (pr w) pv (setW (fun _ => X w) 0 x)) (f : Fr ((pr w).dom count) H2 H3) : LW e H3 count words r pa la pr lr pp pv tt tv (setW X w x) := by
  refine ⟨c2.fr f (S.rp w hw) (p2.at_ w hw).pr.dj, ⟨f _ _ p2.hd (S.pap w hw), fun v hv => ?_⟩, ⟨f _ _ l2.1 (S.lap w hw), fun v hv => (l2.2 v hv).frame fun b o hb z => f b o z fun m => S.pl w v hw hv b m hb⟩, t2.fr2 (fun b o hb z => f b o z (S.tdp w hw b hb)) fun b _ m => nomatch m⟩
  by_cases e1 : v = w
  · subst e1
    rw [setW_same]
    refine ⟨ca.congr fun z hz => ?_, (p2.at_ v hw).pr.fr f, fun _ => okx⟩
    have : z = 0 := by omega
    rw [this, setW_same]
  · have : setW X w x v = X v := fset_ne e1
    rw [this]
    exact (p2.at_ v hv).fr f (fun b hb m => S.pq v w hv hw e1 b hb m) (p2.at_ w hw).pr.dj
end
end Cm
set_option maxHeartbeats 1000000
namespace Cm
open PySem PySem.Spec L2
theorem e_or2 {σ : L2.St} {H : Hp} {t u : TT} {Q : Bool → Hp → Prop} (h : t σ H fun b H1 => if b = true then Q true H1 else u σ H1 Q) : tOr t u σ H Q := h
section
variable {e : En} (T : Tx e) {count words : Nat} {r : CR} {pa la ta : Addr} {pr : Nat → CR} {lr : Nat → LR} {pp : Option (SR × Pr)} {pv tv : V} {tt : Option (TR × Pr)} {X : Nat → Col} {ac : Acc}
include T
def bodyT (e : En) : TS := (tSeq (tAsg (tCall (sp_law_own e) [] C8.E0 (tCons (tVar 3) (tCons (tOp (rIxL e.K) (tVar 13) (tVar 20)) (tCons (tVar 19) tNil)))) (gName 21))
    (tSeq (tIfS (tOr (tNot (tB (tCall (sp_law_same e) [] C8.E0 (tCons (tCall (sp_law_answer e) [] C8.E0 (tCons (tVar 11) (tCons (tVar 19) (tCons (tVar 20) tNil)))) (tCons (tVar 21) tNil))))) (tNot (tB (tCall (sp_law_same e) [] C8.E0 (tCons (tCall (sp_law_answer e) [] C8.E0 (tCons (tOp (rIxL e.K) (tVar 12) (tVar 20)) (tCons (tVar 19) (tCons (tC (.int 0)) tNil)))) (tCons (tVar 21) tNil))))))
    (tRet (tC (.bl false)))
    tNext)
    (tSeq (tIfS (tOr (tNot (tB (tCall (sp_law_stands e) [] C8.E0 (tCons (tVar 11) (tCons (tVar 13) (tCons (tVar 5) (tCons (tOp rEq (tOp (rI (fun _ j => 0 < j) fun i j => .int (i % j)) (tCB rInt1 (tCons (tVar 18) tNil)) (tC (.int 6))) (tC (.int 0))) tNil))))))) (tNot (tB (tCall (sp_law_stands e) [] C8.E0 (tCons (tOp (rIxL e.K) (tVar 12) (tVar 20)) (tCons (tLst (tCons (tOp (rIxL e.K) (tVar 13) (tVar 20)) tNil)) (tCons (tVar 5) (tCons (tC (.bl false)) tNil))))))))
    (tRet (tC (.bl false)))
    tNext)
    (tIfS (tOr (tNot (tB (tCall (sp_law_same e) [] C8.E0 (tCons (tMeth e.Caches "state_of" (sp_Caches_state_of e) [] C8.E0 (tVar 11) (tCons (tOp (rIxT e.K) (tVar 19) (tC (.int 1))) (tCons (tVar 20) tNil))) (tCons (tOp (rIxL e.K) (tOp (rIxL e.K) (tOp (rIxL e.K) (tVar 13) (tVar 20)) (tC (.int 0))) (tOp (rIxT e.K) (tVar 19) (tC (.int 1)))) tNil))))) (tNot (tB (tCall (sp_law_same e) [] C8.E0 (tCons (tMeth e.Caches "copy_of" (sp_Caches_copy_of e) [] C8.E0 (tVar 11) (tCons (tOp (rIxT e.K) (tVar 19) (tC (.int 1))) (tCons (tVar 20) tNil))) (tCons (tOp (rIxL e.K) (tOp (rIxL e.K) (tOp (rIxL e.K) (tVar 13) (tVar 20)) (tC (.int 1))) (tOp (rIxT e.K) (tVar 19) (tC (.int 1)))) tNil))))))
    (tRet (tC (.bl false)))
    tNext))))
theorem law_step {H : Hp} {D : Ends} {k : Nat} {s0 s1 s4 s6 s7 s8 s9 s10 s14 s15 s16 s17 s21 s22 s23 : Option V} (h : LW e H count words r pa la pr lr pp pv tt tv X) (S : LS count words r pa la pr lr pp tt) (hE : tt.map (·.2) = pp.map (·.2)) (hc : count ≤ 100) (hw : words ≤ 100)
    (hta : H ta = some (.tup (accV ac))) (ok : ac.Ok count words) (n1 : ta ∉ r.dom count) (n2 : ta ∉ (pr ac.w).dom count) (n3 : ta ∉ (lr ac.w).dom)
    (q : ∀ (y : V) (H' : Hp), LW e H' count words r pa la pr lr pp pv tt tv (setW X ac.w (stepC (pp.map (·.2)) count ac (X ac.w))) → (∀ b o, H b = some o → b ∉ r.dom count → b ∉ (pr ac.w).dom count → b ∉ (lr ac.w).dom → H' b = some o) →
      D.nx [s0, s1, some pv, some tv, s4, some (.int (count : Int)), s6, s7, s8, s9, s10, some (.ref r.p), some (.ref pa), some (.ref la), s14, s15, s16, s17, some (.int (k : Int)), some (.ref ta), some (.int (ac.w : Int)), some y, s22, s23] H') :
    bodyT e D [s0, s1, some pv, some tv, s4, some (.int (count : Int)), s6, s7, s8, s9, s10, some (.ref r.p), some (.ref pa), some (.ref la), s14, s15, s16, s17, some (.int (k : Int)), some (.ref ta), some (.int (ac.w : Int)), s21, s22, s23] H := by
  have lw := ok.w
  have lc := ok.c
  have okx0 := okW h hE
  have okx : (stepC (pp.map (·.2)) count ac (X ac.w)).Ok (pN pp) := stepC_ok (fun q z => by subst z; exact h.cp.pr.2.2.1) (h.cp.ok ac.w)
  have vl : ∀ (H' : Hp) (y : Option V), H' la = some (.lst (rowR words fun w => (lr w).l)) → Val (tOp (rIxL e.K) (tVar 13) (tVar 20)) [s0, s1, some pv, some tv, s4, some (.int (count : Int)), s6, s7, s8, s9, s10, some (.ref r.p), some (.ref pa), some (.ref la), s14, s15, s16, s17, some (.int (k : Int)), some (.ref ta), some (.int (ac.w : Int)), y, s22, s23] H' (.ref (lr ac.w).l) := fun H' y hh => v_ixL (v_var rfl) (v_var rfl) hh (row_get (g := V.ref) lw)
  have vp : ∀ (H' : Hp) (y : Option V), H' pa = some (.lst (rowR words fun w => (pr w).p)) → Val (tOp (rIxL e.K) (tVar 12) (tVar 20)) [s0, s1, some pv, some tv, s4, some (.int (count : Int)), s6, s7, s8, s9, s10, some (.ref r.p), some (.ref pa), some (.ref la), s14, s15, s16, s17, some (.int (k : Int)), some (.ref ta), some (.int (ac.w : Int)), y, s22, s23] H' (.ref (pr ac.w).p) := fun H' y hh => v_ixL (v_var rfl) (v_var rfl) hh (row_get (g := V.ref) lw)
  have v1 : ∀ (H' : Hp) (y : Option V), H' ta = some (.tup (accV ac)) → Val (tOp (rIxT e.K) (tVar 19) (tC (.int 1))) [s0, s1, some pv, some tv, s4, some (.int (count : Int)), s6, s7, s8, s9, s10, some (.ref r.p), some (.ref pa), some (.ref la), s14, s15, s16, s17, some (.int (k : Int)), some (.ref ta), some (.int (ac.w : Int)), y, s22, s23] H' (.int (ac.c : Int)) := fun H' y hh => v_ixT (z := 1) (v_var rfl) val_c hh rfl
  obtain ⟨d, hd, dv⟩ := dp_any (K := e.K) (p := pp.map (·.2)) (count := count) (a := ac) (x := X ac.w)
  -- the lines' own answer
  refine st_seq (st_asg (e_callx ?_))
  refine e_cons (v_var rfl _ (e_cons (vl H s21 h.lg.1 _ (e_cons (v_var rfl _ (e_nil ?_))))))
  refine ⟨ta, count, lr ac.w, tt, tv, X ac.w, ac, ⟨rfl, hta, ok.cov, ok.v⟩, h.tp.fr2 (fun b o _ z => z) (S.tdl ac.w lw), h.lg.2 ac.w lw, okx0 ac.w, lc, hc, fun H1 f1 ln1 => ?_⟩
  rw [hE] at ln1 ⊢
  obtain ⟨c1, p1, l1, t1⟩ := h.line lw S f1 ln1
  have ta1 := f1 _ _ hta n3
  dsimp only
  -- the two programs' answers
  refine st_seq (st_ifx (e_or2 (e_notB (e_callx (e_cons ?_)))))
  refine v_call (arg_cons (v_var rfl) (arg_cons (v_var rfl) (arg_cons (v_var rfl) arg_nil))) ?_
  refine ⟨count, words, r, pp, pv, X, ac, ta, ac.w, rfl, ta1, ok.cov, ok.v, c1, lc, lw, hc, fun H2 ca2 f2 => ?_⟩
  refine e_cons (v_var rfl _ (e_nil ⟨_, _, d, rfl, dv H2, dv H2, hd, true, rfl, iteF ?_⟩))
  obtain ⟨c2, p2, l2, t2⟩ := LW.cache lw S okx c1 p1 l1 t1 ca2 f2
  have ta2 := f2 _ _ ta1 n1
  refine e_notB (e_callx (e_cons ?_))
  refine e_callx (e_cons (vp H2 _ p2.hd _ (e_cons (v_var rfl _ (e_cons (val_c _ (e_nil ?_)))))))
  refine ⟨count, 1, pr ac.w, pp, pv, fun _ => X ac.w, ac, ta, 0, rfl, ta2, ok.cov, ok.v, p2.at_ ac.w lw, lc, by omega, hc, fun H3 ca3 f3 => ?_⟩
  refine e_cons (v_var rfl _ (e_nil ⟨_, _, d, rfl, dv H3, dv H3, hd, true, rfl, iteF (st_next ?_)⟩))
  have w3 := LW.part lw S okx c2 p2 l2 t2 ca3 f3
  have ta3 := f3 _ _ ta2 n2
  have fr3 : ∀ b o, H b = some o → b ∉ r.dom count → b ∉ (pr ac.w).dom count → b ∉ (lr ac.w).dom → H3 b = some o := fun b o hb m1 m2 m3 => f3 _ _ (f2 _ _ (f1 _ _ hb m3) m1) m2
  clear c1 p1 l1 t1 c2 p2 l2 t2
  dsimp only
  -- what stands
  refine st_seq (st_ifx (e_or2 (e_notB ?_)))
  have vb : ∀ y, Val (tOp rEq (tOp (rI (fun _ j => 0 < j) fun i j => .int (i % j)) (tCB rInt1 (tCons (tVar 18) tNil)) (tC (.int 6))) (tC (.int 0))) [s0, s1, some pv, some tv, s4, some (.int (count : Int)), s6, s7, s8, s9, s10, some (.ref r.p), some (.ref pa), some (.ref la), s14, s15, s16, s17, some (.int (k : Int)), some (.ref ta), some (.int (ac.w : Int)), y, s22, s23] H3 (.bl (decide ((k : Int) % 6 = 0))) := fun y => val_op (v_mod (v_int (v_var rfl)) val_c (by decide)) val_c fun Q q => ⟨rfl, by rw [dec_int]; exact q⟩
  refine v_call (arg_cons (v_var rfl) (arg_cons (v_var rfl) (arg_cons (v_var rfl) (arg_cons (vb _) arg_nil)))) ⟨la, count, words, lr, r, pv, _, _, rfl, w3.cp.ca, w3.lg, hc, hw, fun H4 s4' => ⟨true, rfl, iteF ?_⟩⟩
  have w4 := w3.same s4'
  refine e_notB (e_callx (e_cons ?_))
  refine vp H4 _ w4.ps.hd _ (e_cons (e_lst (arg_cons (vl H4 _ w4.lg.1) arg_nil) (by show 1 ≤ 1000; decide) fun l hl => ?_))
  have s5' := same_new (o := .lst [.ref (lr ac.w).l]) hl
  have w5 := w4.same s5'
  refine e_cons (v_var rfl _ (e_cons (val_c _ (e_nil ?_))))
  refine ⟨l, count, 1, fun _ => lr ac.w, pr ac.w, pv, fun _ => setW X ac.w (stepC (pp.map (·.2)) count ac (X ac.w)) ac.w, false, rfl, (w5.ps.at_ ac.w lw).ca, ⟨upd_same, fun _ _ => w5.lg.2 ac.w lw⟩, hc, by omega, fun H6 s6' => ⟨true, rfl, iteF (st_next ?_)⟩⟩
  have w6 := w5.same s6'
  have s36 := s4'.trans (s5'.trans s6')
  have ta6 := s36 _ _ ta3
  dsimp only
  -- state_of, copy_of
  refine st_ifx (e_or2 (e_notB (e_callx (e_cons ?_))))
  refine v_meth (i := 11) rfl w6.cp.ca rfl (arg_cons (v1 H6 _ ta6) (arg_cons (v_var rfl) arg_nil)) ⟨count, words, r, pv, _, ac.c, ac.w, rfl, w6.cp.ca, lc, lw, ?_⟩
  refine e_cons (v_Lsk (vl H6 _ w6.lg.1) (w6.lg.2 ac.w lw) (v1 H6 _ ta6) lc _ (e_nil ⟨_, _, _, rfl, .int _, .int _, True.intro, true, rfl, iteF ?_⟩))
  refine e_notB (e_callx (e_cons ?_))
  refine v_meth (i := 11) rfl w6.cp.ca rfl (arg_cons (v1 H6 _ ta6) (arg_cons (v_var rfl) arg_nil)) ⟨count, words, r, pv, _, ac.c, ac.w, rfl, w6.cp.ca, lc, lw, ?_⟩
  refine e_cons (v_Lck (vl H6 _ w6.lg.1) (w6.lg.2 ac.w lw) (v1 H6 _ ta6) lc _ (e_nil ⟨_, _, _, rfl, .int _, .int _, True.intro, true, rfl, iteF (st_next ?_)⟩))
  exact q _ H6 w6 fun b o hb m1 m2 m3 => s36 _ _ (fr3 b o hb m1 m2 m3)
end
end Cm
set_option maxHeartbeats 1000000
namespace Cm
open PySem PySem.Spec L2
def lawA (e : En) : TS :=     (tSeq (tAsg (tCall (sp_law_draws e) [] C8.E0 (tCons (tCall (sp_law_cell e) [] C8.E0 (tCons (tVar 0) (tCons (tC (.int 1)) tNil))) (tCons (tC (.int 6)) (tCons (tC (.int 1000)) tNil)))) (gName 4))
    (tSeq (tAsg (tOp (rIxL e.K) (tLst (tCons (tC (.int 4)) (tCons (tC (.int 3)) (tCons (tC (.int 5)) (tCons (tC (.int 6)) tNil))))) (tOp (rI (fun _ j => 0 < j) fun i j => .int (i % j)) (tCB rInt1 (tCons (tOp (rIxL e.K) (tVar 4) (tC (.int 0))) tNil)) (tC (.int 4)))) (gName 5))
    (tSeq (tAsg (tOp (rI (fun _ j => 0 < j) fun i j => .int (i % j)) (tCB rInt1 (tCons (tOp (rIxL e.K) (tVar 4) (tC (.int 1))) tNil)) (tVar 5)) (gName 6))
    (tSeq (tAsg (tOp (rI (fun _ j => 0 < j) fun i j => .int (i % j)) (tCB rInt1 (tCons (tOp (rI0 fun i j => .int (i + j)) (tOp (rI0 fun i j => .int (i + j)) (tVar 6) (tC (.int 1))) (tOp (rI (fun _ j => 0 < j) fun i j => .int (i % j)) (tCB rInt1 (tCons (tOp (rIxL e.K) (tVar 4) (tC (.int 2))) tNil)) (tOp (rI0 fun i j => .int (i - j)) (tVar 5) (tC (.int 1))))) tNil)) (tVar 5)) (gName 7))
    (tSeq (tAsg (tLc (iRng1 (tCons (tVar 5) tNil)) (gName 18) (tAnd (tTest (tOp rNe (tVar 18) (tVar 6))) (tTest (tOp rNe (tVar 18) (tVar 7)))) (tVar 18) [18]) (gName 8))
    (tSeq (tAsg (tOp (rIxL e.K) (tLst (tCons (tC (.int 2)) (tCons (tC (.int 3)) (tCons (tC (.int 1)) (tCons (tC (.int 4)) (tCons (tC (.int 5)) tNil)))))) (tOp (rI (fun _ j => 0 < j) fun i j => .int (i % j)) (tCB rInt1 (tCons (tOp (rIxL e.K) (tVar 4) (tC (.int 3))) tNil)) (tC (.int 5)))) (gName 9))
    (tSeq (tAsg (tLc (iList e.K (tCall (sp_law_draws e) [] C8.E0 (tCons (tCall (sp_law_cell e) [] C8.E0 (tCons (tVar 0) (tCons (tC (.int 2)) tNil))) (tCons (tVar 9) (tCons (tOp (rI CPow fun i j => .int (i * 2 ^ j.toNat)) (tC (.int 1)) (tC (.int 68))) tNil))))) (gName 22) tYes (tCall (sp_law_value e) [] C8.E0 (tCons (tVar 22) (tCons (tOp (rI CPow fun i j => .int (i * 2 ^ j.toNat)) (tC (.int 1)) (tC (.int 64))) tNil))) [22]) (gName 10))
    (tSeq (tAsg (tMake e.Caches (sp_Caches___init__ e) [] C8.E0 (tCons (tVar 2) (tCons (tVar 5) (tCons (tCB (rListOf e.K) (tCons (tVar 10) tNil)) tNil)))) (gName 11))
    (tSeq (tAsg (tLc (iList e.K (tVar 10)) (gName 23) tYes (tMake e.Caches (sp_Caches___init__ e) [] C8.E0 (tCons (tVar 2) (tCons (tVar 5) (tCons (tLst (tCons (tVar 23) tNil)) tNil)))) [23]) (gName 12))
    (tSeq (tAsg (tCall (sp_law_lines e) [] C8.E0 (tCons (tVar 10) (tCons (tVar 5) tNil))) (gName 13))
    (tSeq (tAsg (tCall (sp_law_accesses e) [] C8.E0 (tCons (tCall (sp_law_cell e) [] C8.E0 (tCons (tVar 0) (tCons (tC (.int 3)) tNil))) (tCons (tOp (rI0 fun i j => .int (i + j)) (tC (.int 6)) (tOp (rI (fun _ j => 0 < j) fun i j => .int (i % j)) (tCB rInt1 (tCons (tOp (rIxL e.K) (tVar 4) (tC (.int 4))) tNil)) (tC (.int 19)))) (tCons (tVar 8) (tCons (tVar 9) tNil))))) (gName 14))
    (tSeq (tAsg (tOp (rI (fun _ j => 0 < j) fun i j => .int (i % j)) (tCB rInt1 (tCons (tOp (rIxL e.K) (tVar 4) (tC (.int 5))) tNil)) (tCB (rLenSeq e.K) (tCons (tVar 14) tNil))) (gName 15))
    (tSeq (tAsg (tMeth e.Caches "copy" (sp_Caches_copy e) [] C8.E0 (tVar 11) tNil) (gName 16))
    (tSeq (tAsg (tCall (sp_law_copies e) [] C8.E0 (tCons (tVar 13) tNil)) (gName 17))
    (tSeq (tFor (iRng1 (tCons (tCB (rLenSeq e.K) (tCons (tVar 14) tNil)) tNil)) (gName 18)
    (tSeq (tAsg (tOp (rIxL e.K) (tVar 14) (tVar 18)) (gName 19))
    (tSeq (tAsg (tOp (rIxT e.K) (tVar 19) (tC (.int 2))) (gName 20))
    (tSeq (tIfS (tTest (tOp rEq (tVar 18) (tVar 15)))
    (tSeq (tAsg (tMeth e.Caches "copy" (sp_Caches_copy e) [] C8.E0 (tVar 11) tNil) (gName 16))
    (tAsg (tCall (sp_law_copies e) [] C8.E0 (tCons (tVar 13) tNil)) (gName 17)))
    tNext)
    (tSeq (tAsg (tCall (sp_law_own e) [] C8.E0 (tCons (tVar 3) (tCons (tOp (rIxL e.K) (tVar 13) (tVar 20)) (tCons (tVar 19) tNil)))) (gName 21))
    (tSeq (tIfS (tOr (tNot (tB (tCall (sp_law_same e) [] C8.E0 (tCons (tCall (sp_law_answer e) [] C8.E0 (tCons (tVar 11) (tCons (tVar 19) (tCons (tVar 20) tNil)))) (tCons (tVar 21) tNil))))) (tNot (tB (tCall (sp_law_same e) [] C8.E0 (tCons (tCall (sp_law_answer e) [] C8.E0 (tCons (tOp (rIxL e.K) (tVar 12) (tVar 20)) (tCons (tVar 19) (tCons (tC (.int 0)) tNil)))) (tCons (tVar 21) tNil))))))
    (tRet (tC (.bl false)))
    tNext)
    (tSeq (tIfS (tOr (tNot (tB (tCall (sp_law_stands e) [] C8.E0 (tCons (tVar 11) (tCons (tVar 13) (tCons (tVar 5) (tCons (tOp rEq (tOp (rI (fun _ j => 0 < j) fun i j => .int (i % j)) (tCB rInt1 (tCons (tVar 18) tNil)) (tC (.int 6))) (tC (.int 0))) tNil))))))) (tNot (tB (tCall (sp_law_stands e) [] C8.E0 (tCons (tOp (rIxL e.K) (tVar 12) (tVar 20)) (tCons (tLst (tCons (tOp (rIxL e.K) (tVar 13) (tVar 20)) tNil)) (tCons (tVar 5) (tCons (tC (.bl false)) tNil))))))))
    (tRet (tC (.bl false)))
    tNext)
    (tIfS (tOr (tNot (tB (tCall (sp_law_same e) [] C8.E0 (tCons (tMeth e.Caches "state_of" (sp_Caches_state_of e) [] C8.E0 (tVar 11) (tCons (tOp (rIxT e.K) (tVar 19) (tC (.int 1))) (tCons (tVar 20) tNil))) (tCons (tOp (rIxL e.K) (tOp (rIxL e.K) (tOp (rIxL e.K) (tVar 13) (tVar 20)) (tC (.int 0))) (tOp (rIxT e.K) (tVar 19) (tC (.int 1)))) tNil))))) (tNot (tB (tCall (sp_law_same e) [] C8.E0 (tCons (tMeth e.Caches "copy_of" (sp_Caches_copy_of e) [] C8.E0 (tVar 11) (tCons (tOp (rIxT e.K) (tVar 19) (tC (.int 1))) (tCons (tVar 20) tNil))) (tCons (tOp (rIxL e.K) (tOp (rIxL e.K) (tOp (rIxL e.K) (tVar 13) (tVar 20)) (tC (.int 1))) (tOp (rIxT e.K) (tVar 19) (tC (.int 1)))) tNil))))))
    (tRet (tC (.bl false)))
    tNext))))))))
    (tSeq (tIfS (tOr (tNot (tB (tCall (sp_law_ended e) [] C8.E0 (tCons (tVar 3) (tCons (tVar 11) (tCons (tVar 12) (tCons (tVar 13) (tCons (tVar 5) tNil)))))))) (tNot (tB (tCall (sp_law_stands e) [] C8.E0 (tCons (tVar 16) (tCons (tVar 17) (tCons (tVar 5) (tCons (tC (.bl true)) tNil))))))))
    (tRet (tC (.bl false)))
    tNext)
    (tSeq (tAsg (tOp (rIxL e.K) (tVar 14) (tUn (rU fun i => .int (-i)) (tC (.int 1)))) (gName 19))
    (tSeq (tIfS (tNot (tB (tCall (sp_law_same e) [] C8.E0 (tCons (tCall (sp_law_answer e) [] C8.E0 (tCons (tVar 16) (tCons (tVar 19) (tCons (tOp (rIxT e.K) (tVar 19) (tC (.int 2))) tNil)))) (tCons (tCall (sp_law_own e) [] C8.E0 (tCons (tVar 3) (tCons (tOp (rIxL e.K) (tVar 17) (tOp (rIxT e.K) (tVar 19) (tC (.int 2)))) (tCons (tVar 19) tNil)))) tNil)))))
    (tRet (tC (.bl false)))
    tNext)
    (tRet (tAndV (tCall (sp_law_stands e) [] C8.E0 (tCons (tVar 16) (tCons (tVar 17) (tCons (tVar 5) (tCons (tC (.bl true)) tNil))))) (tCall (sp_law_stands e) [] C8.E0 (tCons (tVar 11) (tCons (tVar 13) (tCons (tVar 5) (tCons (tC (.bl true)) tNil)))))))))))))))))))))))))
def lawB (e : En) : TS :=     (tSeq (tFor (iRng1 (tCons (tCB (rLenSeq e.K) (tCons (tVar 14) tNil)) tNil)) (gName 18)
    (tSeq (tAsg (tOp (rIxL e.K) (tVar 14) (tVar 18)) (gName 19))
    (tSeq (tAsg (tOp (rIxT e.K) (tVar 19) (tC (.int 2))) (gName 20))
    (tSeq (tIfS (tTest (tOp rEq (tVar 18) (tVar 15)))
    (tSeq (tAsg (tMeth e.Caches "copy" (sp_Caches_copy e) [] C8.E0 (tVar 11) tNil) (gName 16))
    (tAsg (tCall (sp_law_copies e) [] C8.E0 (tCons (tVar 13) tNil)) (gName 17)))
    tNext)
    (tSeq (tAsg (tCall (sp_law_own e) [] C8.E0 (tCons (tVar 3) (tCons (tOp (rIxL e.K) (tVar 13) (tVar 20)) (tCons (tVar 19) tNil)))) (gName 21))
    (tSeq (tIfS (tOr (tNot (tB (tCall (sp_law_same e) [] C8.E0 (tCons (tCall (sp_law_answer e) [] C8.E0 (tCons (tVar 11) (tCons (tVar 19) (tCons (tVar 20) tNil)))) (tCons (tVar 21) tNil))))) (tNot (tB (tCall (sp_law_same e) [] C8.E0 (tCons (tCall (sp_law_answer e) [] C8.E0 (tCons (tOp (rIxL e.K) (tVar 12) (tVar 20)) (tCons (tVar 19) (tCons (tC (.int 0)) tNil)))) (tCons (tVar 21) tNil))))))
    (tRet (tC (.bl false)))
    tNext)
    (tSeq (tIfS (tOr (tNot (tB (tCall (sp_law_stands e) [] C8.E0 (tCons (tVar 11) (tCons (tVar 13) (tCons (tVar 5) (tCons (tOp rEq (tOp (rI (fun _ j => 0 < j) fun i j => .int (i % j)) (tCB rInt1 (tCons (tVar 18) tNil)) (tC (.int 6))) (tC (.int 0))) tNil))))))) (tNot (tB (tCall (sp_law_stands e) [] C8.E0 (tCons (tOp (rIxL e.K) (tVar 12) (tVar 20)) (tCons (tLst (tCons (tOp (rIxL e.K) (tVar 13) (tVar 20)) tNil)) (tCons (tVar 5) (tCons (tC (.bl false)) tNil))))))))
    (tRet (tC (.bl false)))
    tNext)
    (tIfS (tOr (tNot (tB (tCall (sp_law_same e) [] C8.E0 (tCons (tMeth e.Caches "state_of" (sp_Caches_state_of e) [] C8.E0 (tVar 11) (tCons (tOp (rIxT e.K) (tVar 19) (tC (.int 1))) (tCons (tVar 20) tNil))) (tCons (tOp (rIxL e.K) (tOp (rIxL e.K) (tOp (rIxL e.K) (tVar 13) (tVar 20)) (tC (.int 0))) (tOp (rIxT e.K) (tVar 19) (tC (.int 1)))) tNil))))) (tNot (tB (tCall (sp_law_same e) [] C8.E0 (tCons (tMeth e.Caches "copy_of" (sp_Caches_copy_of e) [] C8.E0 (tVar 11) (tCons (tOp (rIxT e.K) (tVar 19) (tC (.int 1))) (tCons (tVar 20) tNil))) (tCons (tOp (rIxL e.K) (tOp (rIxL e.K) (tOp (rIxL e.K) (tVar 13) (tVar 20)) (tC (.int 1))) (tOp (rIxT e.K) (tVar 19) (tC (.int 1)))) tNil))))))
    (tRet (tC (.bl false)))
    tNext))))))))
    (tSeq (tIfS (tOr (tNot (tB (tCall (sp_law_ended e) [] C8.E0 (tCons (tVar 3) (tCons (tVar 11) (tCons (tVar 12) (tCons (tVar 13) (tCons (tVar 5) tNil)))))))) (tNot (tB (tCall (sp_law_stands e) [] C8.E0 (tCons (tVar 16) (tCons (tVar 17) (tCons (tVar 5) (tCons (tC (.bl true)) tNil))))))))
    (tRet (tC (.bl false)))
    tNext)
    (tSeq (tAsg (tOp (rIxL e.K) (tVar 14) (tUn (rU fun i => .int (-i)) (tC (.int 1)))) (gName 19))
    (tSeq (tIfS (tNot (tB (tCall (sp_law_same e) [] C8.E0 (tCons (tCall (sp_law_answer e) [] C8.E0 (tCons (tVar 16) (tCons (tVar 19) (tCons (tOp (rIxT e.K) (tVar 19) (tC (.int 2))) tNil)))) (tCons (tCall (sp_law_own e) [] C8.E0 (tCons (tVar 3) (tCons (tOp (rIxL e.K) (tVar 17) (tOp (rIxT e.K) (tVar 19) (tC (.int 2)))) (tCons (tVar 19) tNil)))) tNil)))))
    (tRet (tC (.bl false)))
    tNext)
    (tRet (tAndV (tCall (sp_law_stands e) [] C8.E0 (tCons (tVar 16) (tCons (tVar 17) (tCons (tVar 5) (tCons (tC (.bl true)) tNil))))) (tCall (sp_law_stands e) [] C8.E0 (tCons (tVar 11) (tCons (tVar 13) (tCons (tVar 5) (tCons (tC (.bl true)) tNil)))))))))))
def lawC (e : En) : TS :=     (tSeq (tIfS (tOr (tNot (tB (tCall (sp_law_ended e) [] C8.E0 (tCons (tVar 3) (tCons (tVar 11) (tCons (tVar 12) (tCons (tVar 13) (tCons (tVar 5) tNil)))))))) (tNot (tB (tCall (sp_law_stands e) [] C8.E0 (tCons (tVar 16) (tCons (tVar 17) (tCons (tVar 5) (tCons (tC (.bl true)) tNil))))))))
    (tRet (tC (.bl false)))
    tNext)
    (tSeq (tAsg (tOp (rIxL e.K) (tVar 14) (tUn (rU fun i => .int (-i)) (tC (.int 1)))) (gName 19))
    (tSeq (tIfS (tNot (tB (tCall (sp_law_same e) [] C8.E0 (tCons (tCall (sp_law_answer e) [] C8.E0 (tCons (tVar 16) (tCons (tVar 19) (tCons (tOp (rIxT e.K) (tVar 19) (tC (.int 2))) tNil)))) (tCons (tCall (sp_law_own e) [] C8.E0 (tCons (tVar 3) (tCons (tOp (rIxL e.K) (tVar 17) (tOp (rIxT e.K) (tVar 19) (tC (.int 2)))) (tCons (tVar 19) tNil)))) tNil)))))
    (tRet (tC (.bl false)))
    tNext)
    (tRet (tAndV (tCall (sp_law_stands e) [] C8.E0 (tCons (tVar 16) (tCons (tVar 17) (tCons (tVar 5) (tCons (tC (.bl true)) tNil))))) (tCall (sp_law_stands e) [] C8.E0 (tCons (tVar 11) (tCons (tVar 13) (tCons (tVar 5) (tCons (tC (.bl true)) tNil))))))))))

theorem ll_apart {la : Addr} {lr : Nat → LR} : ∀ {words : Nat}, (la :: (List.range words).flatMap fun w => (lr w).dom).Nodup → (∀ w, w < words → la ∉ (lr w).dom) ∧ ∀ v w, v < words → w < words → v ≠ w → ∀ b, b ∈ (lr v).dom → b ∉ (lr w).dom := by
  intro words nd
  rw [List.nodup_cons] at nd
  refine ⟨fun w hw m => nd.1 (List.mem_flatMap.mpr ⟨w, List.mem_range.mpr hw, m⟩), ?_⟩
  have h := nd.2
  clear nd
  induction words with
  | zero => exact fun v w hv => absurd hv (Nat.not_lt_zero _)
  | succ n ih =>
    rw [List.range_succ, List.flatMap_append, List.nodup_append] at h
    obtain ⟨h1, h2, h3⟩ := h
    have low : ∀ v, v < n → ∀ b, b ∈ (lr v).dom → b ∉ (lr n).dom := fun v hv b hb m => h3 b (List.mem_flatMap.mpr ⟨v, List.mem_range.mpr hv, hb⟩) b (by simpa using m) rfl
    intro v w hv hw hne b hb m
    by_cases e1 : v = n
    · subst e1
      exact low w (by omega) b m hb
    · by_cases e2 : w = n
      · subst e2
        exact low v (by omega) b hb m
      · exact ih h1 v w (by omega) (by omega) hne b hb m
def Mu (count words : Nat) (r : CR) (pr : Nat → CR) (lr : Nat → LR) (b : Addr) : Prop := b ∈ r.dom count ∨ ∃ w, w < words ∧ (b ∈ (pr w).dom count ∨ b ∈ (lr w).dom)
/-- the second pair lies apart -/
structure OS (count words many : Nat) (r : CR) (pr : Nat → CR) (lr : Nat → LR) (pp : Option (SR × Pr)) (tt : Option (TR × Pr)) (la : Addr) (ta : Nat → Addr) (r2 : CR) (la2 : Addr) (lr2 : Nat → LR) : Prop where
  rr : ∀ b, b ∈ r2.dom count → ¬ Mu count words r pr lr b
  mm : ∀ b, b ∈ LLdom words la2 lr2 → ¬ Mu count words r pr lr b
  rm : ∀ b, b ∈ r2.dom count → b ∉ LLdom words la2 lr2
  pdr : ∀ b, b ∈ pDom pp → b ∉ r2.dom count
  pdm : ∀ b, b ∈ pDom pp → b ∉ LLdom words la2 lr2
  tdr : ∀ b, b ∈ tDom tt → b ∉ r2.dom count
  tdm : ∀ b, b ∈ tDom tt → b ∉ LLdom words la2 lr2
  ar : ∀ j, j < many → ta j ∉ r2.dom count
  am : ∀ j, j < many → ta j ∉ LLdom words la2 lr2
  xr : la ∉ r2.dom count
  xm : la ∉ LLdom words la2 lr2
section
variable {e : En} {H H' : Hp} {count words many : Nat} {r r2 : CR} {pa la la2 : Addr} {pr : Nat → CR} {lr lr2 : Nat → LR} {pp : Option (SR × Pr)} {pv tv : V} {tt : Option (TR × Pr)} {X X2 : Nat → Col} {ta : Nat → Addr} {ac : Nat → Acc}
theorem LW.there (h : LW e H count words r pa la pr lr pp pv tt tv X) {b : Addr} (m : Mu count words r pr lr b) : ∃ o, H b = some o := by
  rcases m with m | ⟨w, hw, m | m⟩
  · exact h.cp.ca.there m
  · exact (h.ps.at_ w hw).ca.there m
  · exact (h.lg.2 w hw).there m
theorem pDom_there (h : PPat e H [] pp pv) {b : Addr} (hb : b ∈ pDom pp) : ∃ o, H b = some o := by
  cases pp with
  | none => exact nomatch hb
  | some q =>
    have h2 := h.2.1
    unfold pDom SR.dom at hb
    simp only [List.mem_cons, List.not_mem_nil, or_false] at hb
    rcases hb with rfl | rfl | rfl | rfl | rfl | rfl | rfl | rfl | rfl
    · obtain ⟨nm, ho⟩ := h2.ob
      exact ⟨_, ho⟩
    · exact ⟨_, h2.wr⟩
    · exact ⟨_, h2.rd⟩
    · exact ⟨_, h2.st⟩
    · exact ⟨_, h2.gr⟩
    · exact ⟨_, h2.cr⟩
    · exact ⟨_, h2.gs⟩
    · exact ⟨_, h2.cs⟩
    · exact ⟨_, h2.bk⟩
theorem tDom_there {F : List Addr} (h : TPat H F tt tv) {b : Addr} (hb : b ∈ tDom tt) : ∃ o, H b = some o := by
  cases tt with
  | none => exact nomatch hb
  | some q => exact h.2.1.there hb
theorem notnew {b : Addr} (h : ∃ o, H b = some o) (n : H b = none) : False := by
  obtain ⟨o, ho⟩ := h
  rw [n] at ho
  cases ho
theorem OS.of_new {H1 : Hp} (h : LW e H count words r pa la pr lr pp pv tt tv X) (s : Same H H1) (c2 : CAat e H1 count words r2 pv X) (n2 : ∀ b, b ∈ r2.dom count → H b = none) (m2 : ∀ b, b ∈ LLdom words la2 lr2 → H1 b = none) (hta : ∀ j, j < many → H (ta j) = some (.tup (accV (ac j)))) :
    OS count words many r pr lr pp tt la ta r2 la2 lr2 := by
  have pt : ∀ b, b ∈ pDom pp → ∃ o, H b = some o := fun b hb => pDom_there (h.cp.pr.to (fun b o _ z => z) fun b _ m => nomatch m) hb
  have up : ∀ b, (∃ o, H b = some o) → ∃ o, H1 b = some o := fun b ⟨o, ho⟩ => ⟨o, s _ _ ho⟩
  exact ⟨fun b hb m => notnew (h.there m) (n2 b hb), fun b hb m => notnew (up b (h.there m)) (m2 b hb), fun b hb m => notnew (c2.there hb) (m2 b m), fun b hb m => notnew (pt b hb) (n2 b m), fun b hb m => notnew (up b (pt b hb)) (m2 b m),
    fun b hb m => notnew (tDom_there h.tp hb) (n2 b m), fun b hb m => notnew (up b (tDom_there h.tp hb)) (m2 b m), fun j hj m => notnew ⟨_, hta j hj⟩ (n2 _ m), fun j hj m => notnew (up _ ⟨_, hta j hj⟩) (m2 _ m), fun m => notnew ⟨_, h.lg.1⟩ (n2 _ m), fun m => notnew (up _ ⟨_, h.lg.1⟩) (m2 _ m)⟩
theorem LLat.frame (h : LLat H count words la2 lr2 X2) (f : ∀ b o, b ∈ LLdom words la2 lr2 → H b = some o → H' b = some o) : LLat H' count words la2 lr2 X2 :=
  ⟨f _ _ (List.mem_cons_self ..) h.hd, fun w hw => (h.at_ w hw).frame fun b o hb z => f b o (List.mem_cons_of_mem _ (List.mem_flatMap.mpr ⟨w, List.mem_range.mpr hw, hb⟩)) z, h.nd⟩
end
section
variable {e : En} (T : Tx e) {count words many cut : Nat} {r r2 : CR} {pa la la2 al : Addr} {pr : Nat → CR} {lr lr2 : Nat → LR} {pp : Option (SR × Pr)} {pv tv : V} {tt : Option (TR × Pr)} {X X2 : Nat → Col} {ta : Nat → Addr} {ac : Nat → Acc}
include T
theorem p_lawC {H : Hp} {Q : VK} {s0 s1 s4 s6 s7 s8 s9 s10 s15 s18 s19 s20 s21 s22 s23 : Option V} (h : LW e H count words r pa la pr lr pp pv tt tv X) (hE : tt.map (·.2) = pp.map (·.2)) (hc : count ≤ 100) (hw : words ≤ 100)
    (hal : H al = some (.lst (rowR many ta))) (hm : 0 < many) (hta : ∀ j, j < many → H (ta j) = some (.tup (accV (ac j))) ∧ (ac j).Ok count words) (c2 : CPat e H count words r2 pp pv X2) (l2 : LLat H count words la2 lr2 X2) (O : OS count words many r pr lr pp tt la ta r2 la2 lr2) (q : ∀ H', Q (.bl true) H') :
    lawC e { nx := fun _ H' => Q .non H', rt := Q } [s0, s1, some pv, some tv, s4, some (.int (count : Int)), s6, s7, s8, s9, s10, some (.ref r.p), some (.ref pa), some (.ref la), some (.ref al), s15, some (.ref r2.p), some (.ref la2), s18, s19, s20, s21, s22, s23] H := by
  refine st_seq (st_ifx (e_or2 (e_notB ?_)))
  refine v_call (arg_cons (v_var rfl) (arg_cons (v_var rfl) (arg_cons (v_var rfl) (arg_cons (v_var rfl) (arg_cons (v_var rfl) arg_nil))))) ?_
  refine ⟨count, words, r, pa, la, pr, lr, tt, tv, pp, pv, X, rfl, h.cp, h.ps, h.lg, h.tp, hE, hc, hw, fun H1 u1 => ⟨true, rfl, iteF ?_⟩⟩
  refine e_notB ?_
  refine v_call (arg_cons (v_var rfl) (arg_cons (v_var rfl) (arg_cons (v_var rfl) (arg_cons val_c arg_nil)))) ?_
  have l2' := l2.frame (H' := H1) fun b o _ z => u1 b o z
  refine ⟨la2, count, words, lr2, r2, pv, X2, true, rfl, c2.ca.same u1, ⟨l2'.hd, l2'.at_⟩, hc, hw, fun H2 u2 => ⟨true, rfl, iteF (st_next ?_)⟩⟩
  have s02 := u1.trans u2
  have w2 := h.same s02
  have cc2 := c2.same s02
  have ll2 := l2.frame (H' := H2) fun b o _ z => s02 b o z
  dsimp only
  have hlast : many - 1 < many := by omega
  obtain ⟨htl, ok⟩ := hta (many - 1) hlast
  have ht2 := s02 _ _ htl
  have hat : atI (rowR many ta) (-1) = some (.ref (ta (many - 1))) := by
    unfold atI ixN
    rw [row_len, if_neg (by decide), if_pos (by omega)]
    have e1 : (-1 + (many : Int)).toNat = many - 1 := by omega
    rw [e1]
    exact row_get (g := V.ref) hlast
  refine st_seq (st_set (v_ixLs (v_var rfl) (v_U val_c) (SqL.of (s02 _ _ hal)) hat) ?_)
  have nta1 := O.ar (many - 1) hlast
  generalize ac (many - 1) = ac' at *
  generalize ta (many - 1) = t at *
  dsimp only
  have lw := ok.w
  obtain ⟨ap1, ap2⟩ := ll_apart l2.nd
  have inL : ∀ b, b ∈ (lr2 ac'.w).dom → b ∈ LLdom words la2 lr2 := fun b hb => List.mem_cons_of_mem _ (List.mem_flatMap.mpr ⟨ac'.w, List.mem_range.mpr lw, hb⟩)
  have v2 : ∀ (H' : Hp), H' t = some (.tup (accV ac')) → Val (tOp (rIxT e.K) (tVar 19) (tC (.int 2))) [s0, s1, some pv, some tv, s4, some (.int (count : Int)), s6, s7, s8, s9, s10, some (.ref r.p), some (.ref pa), some (.ref la), some (.ref al), s15, some (.ref r2.p), some (.ref la2), s18, some (.ref t), s20, s21, s22, s23] H' (.int (ac'.w : Int)) := fun H' hh => v_ixT (z := 2) (v_var rfl) val_c hh rfl
  refine st_seq (st_ifx (e_notB (e_callx (e_cons ?_))))
  refine v_call (arg_cons (v_var rfl) (arg_cons (v_var rfl) (arg_cons (v2 H2 ht2) arg_nil))) ?_
  refine ⟨count, words, r2, pp, pv, X2, ac', t, ac'.w, rfl, ht2, ok.cov, ok.v, cc2, ok.c, lw, hc, fun H3 ca3 f3 => ?_⟩
  have ht3 := f3 _ _ ht2 nta1
  have ll3 := ll2.frame (H' := H3) fun b o hb z => f3 b o z fun m => O.rm b m hb
  have okL : (X2 ac'.w).Ok (pN tt) := by
    have e1 : pN tt = pN pp := by
      cases tt <;> cases pp <;> first | rfl | cases hE | exact congrArg Pr.n (Option.some.inj hE)
    rw [e1]
    exact c2.ok ac'.w
  have t3 : TPat H3 [] tt tv := w2.tp.fr2 (fun b o hb z => f3 b o z (O.tdr b hb)) fun b _ m => nomatch m
  refine e_cons (e_callx (e_cons (v_var rfl _ (e_cons ?_))))
  refine v_ixL (v_var rfl) (v2 H3 ht3) ll3.hd (row_get (g := V.ref) lw) _ (e_cons (v_var rfl _ (e_nil ?_)))
  refine ⟨t, count, lr2 ac'.w, tt, tv, X2 ac'.w, ac', ⟨rfl, ht3, ok.cov, ok.v⟩, t3.fr2 (fun b o _ z => z) (fun b hb m => O.tdm b hb (inL b m)), ll3.at_ ac'.w lw, okL, ok.c, hc, fun H4 f4 ln4 => ?_⟩
  rw [hE] at ln4 ⊢
  obtain ⟨d, hd, dv⟩ := dp_any (K := e.K) (p := pp.map (·.2)) (count := count) (a := ac') (x := X2 ac'.w)
  refine e_nil ⟨_, _, d, rfl, dv H4, dv H4, hd, true, rfl, iteF (st_next ?_)⟩
  dsimp only
  have ca4 : CAat e H4 count words r2 pv (setW X2 ac'.w (stepC (pp.map (·.2)) count ac' (X2 ac'.w))) := ca3.frame fun b o hb z => f4 b o z fun m => O.rm b hb (inL b m)
  have lg4 : LGat H4 count words la2 lr2 (setW X2 ac'.w (stepC (pp.map (·.2)) count ac' (X2 ac'.w))) := by
    refine ⟨f4 _ _ ll3.hd (ap1 _ lw), fun v hv => ?_⟩
    by_cases e1 : v = ac'.w
    · subst e1
      rw [setW_same]
      exact ln4
    · have : setW X2 ac'.w (stepC (pp.map (·.2)) count ac' (X2 ac'.w)) v = X2 v := fset_ne e1
      rw [this]
      exact (ll3.at_ v hv).frame fun b o hb z => f4 b o z (ap2 v _ hv lw e1 b hb)
  have keep : ∀ b o, H2 b = some o → Mu count words r pr lr b → H4 b = some o := fun b o hb m => f4 _ _ (f3 _ _ hb fun m2 => O.rr b m2 m) fun m2 => O.mm b (inL b m2) m
  have ca5 : CAat e H4 count words r pv X := w2.cp.ca.frame fun b o hb z => keep b o z (.inl hb)
  refine st_rt ?_
  show tCall _ _ _ _ _ _ _
  refine v_call (arg_cons (v_var rfl) (arg_cons (v_var rfl) (arg_cons (v_var rfl) (arg_cons val_c arg_nil)))) ?_
  refine ⟨la2, count, words, lr2, r2, pv, _, true, rfl, ca4, lg4, hc, hw, fun H5 u5 => ⟨true, rfl, iteT ?_⟩⟩
  have lg5 : LGat H5 count words la lr X := ⟨u5 _ _ (f4 _ _ (f3 _ _ w2.lg.1 O.xr) fun m => O.xm (inL _ m)), fun v hv => (w2.lg.2 v hv).frame fun b o hb z => u5 _ _ (keep b o z (.inr ⟨v, hv, .inr hb⟩))⟩
  refine v_call (arg_cons (v_var rfl) (arg_cons (v_var rfl) (arg_cons (v_var rfl) (arg_cons val_c arg_nil)))) ?_
  exact ⟨la, count, words, lr, r, pv, X, true, rfl, ca5.same u5, lg5, hc, hw, fun H6 u6 => q H6⟩
end
end Cm
set_option maxHeartbeats 1000000
namespace Cm
open PySem PySem.Spec L2
section
variable {e : En} (T : Tx e) {count words many cut : Nat} {r r2 : CR} {pa la la2 al : Addr} {pr : Nat → CR} {lr lr2 : Nat → LR} {pp : Option (SR × Pr)} {pv tv : V} {tt : Option (TR × Pr)} {X X2 : Nat → Col} {ta : Nat → Addr} {ac : Nat → Acc}
include T
theorem p_lawB {H : Hp} {Q : VK} {s0 s1 s4 s6 s7 s8 s9 s10 s18 s19 s20 s21 s22 s23 : Option V} (h : LW e H count words r pa la pr lr pp pv tt tv X) (S : LS count words r pa la pr lr pp tt) (ndl : (LLdom words la lr).Nodup) (hE : tt.map (·.2) = pp.map (·.2)) (hc : count ≤ 100) (hw : words ≤ 100) (hmany : many ≤ 100)
    (hal : H al = some (.lst (rowR many ta))) (hm : 0 < many) (hta : ∀ j, j < many → H (ta j) = some (.tup (accV (ac j))) ∧ (ac j).Ok count words) (nal : ¬ Mu count words r pr lr al) (nta : ∀ j, j < many → ¬ Mu count words r pr lr (ta j))
    (c2 : CPat e H count words r2 pp pv X2) (l2 : LLat H count words la2 lr2 X2) (O : OS count words many r pr lr pp tt la ta r2 la2 lr2) (q : ∀ H', Q (.bl true) H') :
    lawB e { nx := fun _ H' => Q .non H', rt := Q } [s0, s1, some pv, some tv, s4, some (.int (count : Int)), s6, s7, s8, s9, s10, some (.ref r.p), some (.ref pa), some (.ref la), some (.ref al), some (.int (cut : Int)), some (.ref r2.p), some (.ref la2), s18, s19, s20, s21, s22, s23] H := by
  have vlen := v_lenL (K := e.K) (ta := tVar 14) (σ := [s0, s1, some pv, some tv, s4, some (.int (count : Int)), s6, s7, s8, s9, s10, some (.ref r.p), some (.ref pa), some (.ref la), some (.ref al), some (.int (cut : Int)), some (.ref r2.p), some (.ref la2), s18, s19, s20, s21, s22, s23]) (v_var rfl) hal
  rw [row_len] at vlen
  have npd : ∀ X H, LW e H count words r pa la pr lr pp pv tt tv X → ∀ b, b ∈ pDom pp → ¬ Mu count words r pr lr b := fun X H h b hb m => by
    rcases m with m | ⟨w, hw2, m | m⟩
    · exact h.cp.pr.dj b hb m
    · exact (h.ps.at_ w hw2).pr.dj b hb m
    · exact S.pdl w hw2 b hb m
  obtain ⟨Pv, hPv⟩ : ∃ Pv : L2.St → Hp → Prop, Pv = fun σ H' => ∃ (X : Nat → Col) (r2 : CR) (la2 : Addr) (lr2 : Nat → LR) (X2 : Nat → Col) (z18 z19 z20 z21 z22 z23 : Option V), σ = [s0, s1, some pv, some tv, s4, some (.int (count : Int)), s6, s7, s8, s9, s10, some (.ref r.p), some (.ref pa), some (.ref la), some (.ref al), some (.int (cut : Int)), some (.ref r2.p), some (.ref la2), z18, z19, z20, z21, z22, z23] ∧ LW e H' count words r pa la pr lr pp pv tt tv X ∧ CPat e H' count words r2 pp pv X2 ∧ LLat H' count words la2 lr2 X2 ∧ OS count words many r pr lr pp tt la ta r2 la2 lr2 ∧ H' al = some (.lst (rowR many ta)) ∧ ∀ j, j < many → H' (ta j) = some (.tup (accV (ac j))) := ⟨_, rfl⟩
  have mk : ∀ σ H', (∃ (X : Nat → Col) (r2 : CR) (la2 : Addr) (lr2 : Nat → LR) (X2 : Nat → Col) (z18 z19 z20 z21 z22 z23 : Option V), σ = [s0, s1, some pv, some tv, s4, some (.int (count : Int)), s6, s7, s8, s9, s10, some (.ref r.p), some (.ref pa), some (.ref la), some (.ref al), some (.int (cut : Int)), some (.ref r2.p), some (.ref la2), z18, z19, z20, z21, z22, z23] ∧ LW e H' count words r pa la pr lr pp pv tt tv X ∧ CPat e H' count words r2 pp pv X2 ∧ LLat H' count words la2 lr2 X2 ∧ OS count words many r pr lr pp tt la ta r2 la2 lr2 ∧ H' al = some (.lst (rowR many ta)) ∧ ∀ j, j < many → H' (ta j) = some (.tup (accV (ac j)))) → Pv σ H' := fun σ H' z => by
    rw [hPv]
    exact z
  have un : ∀ σ H', Pv σ H' → ∃ (X : Nat → Col) (r2 : CR) (la2 : Addr) (lr2 : Nat → LR) (X2 : Nat → Col) (z18 z19 z20 z21 z22 z23 : Option V), σ = [s0, s1, some pv, some tv, s4, some (.int (count : Int)), s6, s7, s8, s9, s10, some (.ref r.p), some (.ref pa), some (.ref la), some (.ref al), some (.int (cut : Int)), some (.ref r2.p), some (.ref la2), z18, z19, z20, z21, z22, z23] ∧ LW e H' count words r pa la pr lr pp pv tt tv X ∧ CPat e H' count words r2 pp pv X2 ∧ LLat H' count words la2 lr2 X2 ∧ OS count words many r pr lr pp tt la ta r2 la2 lr2 ∧ H' al = some (.lst (rowR many ta)) ∧ ∀ j, j < many → H' (ta j) = some (.tup (accV (ac j))) := fun σ H' z => by
    rw [hPv] at z
    exact z
  clear hPv
  refine st_seq (st_forR (n := many) vlen (by omega) (fun _ => Pv)
    (mk _ _ ⟨X, r2, la2, lr2, X2, _, _, _, _, _, _, rfl, h, c2, l2, O, hal, fun j hj => (hta j hj).1⟩) ?_ ?_)
  · intro i σ H1 hi hP
    obtain ⟨X, r2, la2, lr2, X2, z18, z19, z20, z21, z22, z23, rfl, h1, c2, l2, O, hal1, hta1⟩ := un _ _ hP
    refine st_seq (st_set (v_ixL (v_var rfl) (v_var rfl) hal1 (row_get (g := V.ref) hi)) ?_)
    dsimp only
    refine st_seq (st_set (v_ixT (z := 2) (v_var rfl) val_c (hta1 i hi) rfl) ?_)
    dsimp only
    have ok := (hta i hi).2
    have lw := ok.w
    -- the step, whatever the second pair
    have go : ∀ (H2 : Hp) (r2 : CR) (la2 : Addr) (lr2 : Nat → LR) (X2 : Nat → Col), LW e H2 count words r pa la pr lr pp pv tt tv X → CPat e H2 count words r2 pp pv X2 → LLat H2 count words la2 lr2 X2 → OS count words many r pr lr pp tt la ta r2 la2 lr2 → H2 al = some (.lst (rowR many ta)) → (∀ j, j < many → H2 (ta j) = some (.tup (accV (ac j)))) →
        bodyT e { nx := Pv, rt := Q, bk := lawC e { nx := fun _ H' => Q .non H', rt := Q }, ct := Pv }
          [s0, s1, some pv, some tv, s4, some (.int (count : Int)), s6, s7, s8, s9, s10, some (.ref r.p), some (.ref pa), some (.ref la), some (.ref al), some (.int (cut : Int)), some (.ref r2.p), some (.ref la2), some (.int (i : Int)), some (.ref (ta i)), some (.int ((ac i).w : Int)), z21, z22, z23] H2 := by
      intro H2 r2 la2 lr2 X2 h2 c2 l2 O hal2 hta2
      refine law_step T h2 S hE hc hw (hta2 i hi) ok (fun m => nta i hi (.inl m)) (fun m => nta i hi (.inr ⟨_, lw, .inl m⟩)) (fun m => nta i hi (.inr ⟨_, lw, .inr m⟩)) fun y H3 w3 fr => ?_
      have fm : ∀ b o, H2 b = some o → ¬ Mu count words r pr lr b → H3 b = some o := fun b o hb m => fr b o hb (fun z => m (.inl z)) (fun z => m (.inr ⟨_, lw, .inl z⟩)) (fun z => m (.inr ⟨_, lw, .inr z⟩))
      exact mk _ _ ⟨_, r2, la2, lr2, X2, _, _, _, _, _, _, rfl, w3, ⟨c2.ca.frame fun b o hb z => fm b o z (O.rr b hb), c2.pr.to (fun b o hb z => fm b o z (npd X H2 h2 b hb)) c2.pr.dj, c2.ok⟩, l2.frame fun b o hb z => fm b o z (O.mm b hb), O, fm _ _ hal2 nal, fun j hj => fm _ _ (hta2 j hj) (nta j hj)⟩
    refine st_seq (st_if (a_eqI (v_var rfl) (v_var rfl) rfl) (fun _ => ?_) fun _ => st_next (go H1 r2 la2 lr2 X2 h1 c2 l2 O hal1 hta1))
    refine st_seq (st_asg (v_meth (i := 11) rfl h1.cp.ca rfl arg_nil ⟨count, words, r, pv, X, rfl, h1.cp.ca, hc, hw, fun r3 H2 u2 ca3 n3 => ?_⟩))
    dsimp only
    have h2 := h1.same u2
    refine st_asg (v_call (arg_cons (v_var rfl) arg_nil) ⟨la, count, words, lr, X, rfl, ⟨h2.lg.1, h2.lg.2, ndl⟩, hw, fun la3 lr3 H3 u3 l3 m3 => ?_⟩)
    have O3 := OS.of_new (many := many) (ac := ac) h1 u2 ca3 n3 m3 hta1
    exact go H3 r3 la3 lr3 X (h2.same u3) ⟨ca3.same u3, (h1.cp.pr.to (fun b o _ z => u3 _ _ (u2 _ _ z)) O3.pdr), h1.cp.ok⟩ l3 O3 (u3 _ _ (u2 _ _ hal1)) fun j hj => u3 _ _ (u2 _ _ (hta1 j hj))
  · intro σ H1 hP
    obtain ⟨X, r2, la2, lr2, X2, z18, z19, z20, z21, z22, z23, rfl, h1, c2, l2, O, hal1, hta1⟩ := un _ _ hP
    exact p_lawC T h1 hE hc hw hal1 hm (fun j hj => ⟨hta1 j hj, (hta j hj).2⟩) c2 l2 O q
end
end Cm
set_option maxHeartbeats 1000000
namespace Cm
open PySem PySem.Spec L2
/-- what determines a Caches -/
theorem CR.uniq {e : En} {A B H : Hp} {count w1 w2 : Nat} {r r' : CR} {pv pv' : V} {X Y : Nat → Col} (ha : ∀ b o, b ∈ r.dom count → A b = some o → H b = some o) (hb : ∀ b o, b ∈ r'.dom count → B b = some o → H b = some o) (h : CAat e A count w1 r pv X) (h' : CAat e B count w2 r' pv' Y) (ep : r.p = r'.p) : r.dom count = r'.dom count := by
  have o1 := ha _ _ CR.mp h.ob
  have o2 := hb _ _ CR.mp h'.ob
  rw [ep, o2] at o1
  have o3 := Option.some.inj o1
  unfold cf at o3
  simp only [HO.ins.injEq, List.cons.injEq, Prod.mk.injEq, V.ref.injEq, true_and, and_true] at o3
  obtain ⟨e1, e2, e3, e4, e5⟩ := o3
  have s1 := ha _ _ CR.mS h.hS
  have s2 := hb _ _ CR.mS h'.hS
  rw [← e4, s2] at s1
  have c1 := ha _ _ CR.mC h.hC
  have c2 := hb _ _ CR.mC h'.hC
  rw [← e5, c2] at c1
  have row_inj : ∀ f g : Nat → Addr, rowR count f = rowR count g → (List.range count).map f = (List.range count).map g := fun f g hfg => by
    refine List.map_congr_left fun k hk => ?_
    have hk := List.mem_range.mp hk
    have h1 := row_get (g := V.ref) (f := f) hk
    have h2 := row_get (g := V.ref) (f := g) hk
    have hfg : row V.ref count f = row V.ref count g := hfg
    rw [hfg, h2] at h1
    injection h1 with h1
    injection h1 with h1
    exact h1.symm
  have es := row_inj _ _ (HO.lst.inj (Option.some.inj s1))
  have ec := row_inj _ _ (HO.lst.inj (Option.some.inj c1))
  unfold CR.dom
  rw [ep, ← e3, ← e4, ← e5, es, ec]
def RC (e : En) (count : Nat) (pv : V) (x : Nat → Col) (k : Nat) (v : V) (A : Hp) : Prop := ∃ r : CR, v = .ref r.p ∧ CAat e A count 1 r pv fun _ => x k
theorem parts_of {e : En} {H H' : Hp} {L : Addr} {n count : Nat} {pv : V} {x : Nat → Col} {xs : List V} (nL : H L = none) (hL : H' L = some (.lst xs)) (len : xs.length = n) (hr : ∀ (k : Nat) v, xs[k]? = some v → RC e count pv x k v (mi H' (upd H L (.lst []))))
    (ap : ∀ (j k : Nat) u v, j < k → xs[j]? = some u → xs[k]? = some v → ∃ B : Hp, (∃ o, B L = some o) ∧ (∀ b o, b ≠ L → B b = some o → H' b = some o) ∧ RC e count pv x j u (mi B (upd H L (.lst []))) ∧ RC e count pv x k v (mi H' B)) :
    ∃ pr : Nat → CR, H' L = some (.lst (rowR n fun w => (pr w).p)) ∧ (∀ w, w < n → CAat e H' count 1 (pr w) pv fun _ => x w) ∧ (∀ w, w < n → ∀ b, b ∈ (pr w).dom count → H b = none ∧ b ≠ L) ∧ ∀ v w, v < n → w < n → v ≠ w → ∀ b, b ∈ (pr v).dom count → b ∉ (pr w).dom count := by
  have h1 : ∀ k, ∃ r : CR, k < n → xs[k]? = some (.ref r.p) ∧ CAat e (mi H' (upd H L (.lst []))) count 1 r pv fun _ => x k := fun k => by
    by_cases hk : k < n
    · have e1 := List.getElem?_eq_getElem (l := xs) (i := k) (by omega)
      obtain ⟨r, hv, hc⟩ := hr k _ e1
      exact ⟨r, fun _ => ⟨by rw [e1, hv], hc⟩⟩
    · exact ⟨⟨0, 0, 0, 0, 0, fun _ => 0, fun _ => 0⟩, fun z => absurd z hk⟩
  obtain ⟨pr, hpr⟩ := Classical.skolem.mp h1
  have new : ∀ w, w < n → ∀ b, b ∈ (pr w).dom count → H b = none ∧ b ≠ L := fun w hw b hb => by
    obtain ⟨o, ho⟩ := (hpr w hw).2.there hb
    have h2 := (mi_some ho).2
    have nb : b ≠ L := fun z => by
      rw [z, upd_same] at h2
      cases h2
    rw [upd_ne nb] at h2
    exact ⟨h2, nb⟩
  refine ⟨pr, ?_, fun w hw => (hpr w hw).2.same mi_le, new, ?_⟩
  · rw [hL]
    refine congrArg (fun z => some (HO.lst z)) (List.ext_getElem? fun k => ?_)
    by_cases hk : k < n
    · rw [(hpr k hk).1, row_get (g := V.ref) hk]
    · rw [List.getElem?_eq_none (by omega), List.getElem?_eq_none (by rw [row_len]; omega)]
  · have key : ∀ v w, v < w → w < n → ∀ b, b ∈ (pr v).dom count → b ∉ (pr w).dom count := fun v w hvw hw b hbv hbw => by
      obtain ⟨B, hBL, hBH, ⟨r1, e1, l1⟩, ⟨r2, e2, l2⟩⟩ := ap v w _ _ hvw (hpr v (by omega)).1 (hpr w hw).1
      injection e1 with e1
      injection e2 with e2
      have u2 : (pr w).dom count = r2.dom count := CR.uniq (H := H') (fun b o _ z => mi_le _ _ z) (fun b o _ z => mi_le _ _ z) (hpr w hw).2 l2 e2
      -- r1's addresses are not L: L holds a list of references
      have nL1 : ∀ b, b ∈ r1.dom count → b ≠ L := fun b hb z => by
        obtain ⟨o, ho⟩ := l1.there hb
        have h2 := (mi_some ho).2
        rw [z, upd_same] at h2
        cases h2
      have u1 : (pr v).dom count = r1.dom count := CR.uniq (H := H') (fun b o _ z => mi_le _ _ z) (fun b o hb z => hBH b o (nL1 b hb) (mi_le _ _ z)) (hpr v (by omega)).2 l1 e1
      rw [u2] at hbw
      rw [u1] at hbv
      obtain ⟨o, ho⟩ := l2.there hbw
      obtain ⟨o2, ho2⟩ := l1.there hbv
      have ho3 := (mi_some ho2).1
      rw [(mi_some ho).2] at ho3
      cases ho3
    exact fun v w hv hw hne b hbv hbw => by
      rcases Nat.lt_or_gt_of_ne hne with z | z
      · exact key v w z hw b hbv hbw
      · exact key w v z hv b hbw hbv
theorem ints_of {n : Nat} {xs : List V} (hl : xs.length = n) (h : ∀ (k : Nat) v, xs[k]? = some v → ∃ z : Int, v = .int z ∧ 0 ≤ z ∧ z < 2 ^ 64) : ∃ g : Nat → Int, xs = rowI n g ∧ ∀ k, 0 ≤ g k ∧ g k < 2 ^ 64 := by
  have h1 : ∀ k, ∃ z : Int, (0 ≤ z ∧ z < 2 ^ 64) ∧ (k < n → xs[k]? = some (.int z)) := fun k => by
    by_cases hk : k < n
    · have e := List.getElem?_eq_getElem (l := xs) (i := k) (by omega)
      obtain ⟨z, hz, h0⟩ := h k _ e
      exact ⟨z, h0, fun _ => by rw [e, hz]⟩
    · exact ⟨0, ⟨by decide, by decide⟩, fun z => absurd z hk⟩
  obtain ⟨g, hg⟩ := Classical.skolem.mp h1
  refine ⟨g, List.ext_getElem? fun k => ?_, fun k => (hg k).1⟩
  by_cases hk : k < n
  · rw [(hg k).2 hk, row_get (g := V.int) hk]
  · rw [List.getElem?_eq_none (by omega), List.getElem?_eq_none (by rw [row_len]; omega)]
theorem names_of (l : List Nat) : l.map (fun k : Nat => V.int (k : Int)) = rowN l.length fun i => l.getD i 0 := by
  refine List.ext_getElem? fun k => ?_
  by_cases hk : k < l.length
  · rw [List.getElem?_map, row_get (g := fun k : Nat => V.int (k : Int)) hk, List.getD_eq_getElem?_getD, List.getElem?_eq_getElem hk]
    rfl
  · rw [List.getElem?_eq_none (by rw [List.length_map]; omega), List.getElem?_eq_none (by rw [row_len]; omega)]
end Cm
set_option maxHeartbeats 1000000
namespace Cm
open PySem PySem.Spec L2
section
variable {e : En} (T : Tx e)
theorem e_cell {σ : L2.St} {H : Hp} {a : Addr} {ns : List Int} {k : Nat} {Q : VK} (h0 : σ[0]? = some (some (.ref a))) (ha : SqL e.K H a (ns.map V.int)) (q : ∀ z : Int, Q (.int z) H) : tCall (sp_law_cell e) [] C8.E0 (tCons (tVar 0) (tCons (tC (.int (k : Int))) tNil)) σ H Q :=
  v_call (arg_cons (v_var h0) (arg_cons val_c arg_nil)) ⟨a, ns, k, rfl, ha, q⟩
theorem pick {xs : List Nat} {m : Int} {n : Nat} (hn : xs.length = n) (h0 : 0 ≤ m ∧ m < n) : ∃ c, c ∈ xs ∧ atI (xs.map fun k : Nat => V.int (k : Int)) m = some (.int (c : Int)) := by
  obtain ⟨j, rfl⟩ : ∃ j : Nat, m = (j : Int) := ⟨m.toNat, by omega⟩
  have hj : j < xs.length := by omega
  refine ⟨xs[j], List.getElem_mem hj, atI_nat ?_⟩
  rw [List.getElem?_map, List.getElem?_eq_getElem hj]
  rfl
include T
theorem p_lawA {H : Hp} {Q : VK} {a : Addr} {ns : List Int} {s1 : Option V} {pp : Option (SR × Pr)} {pv tv : V} {tt : Option (TR × Pr)} (ha : SqL e.K H a (ns.map V.int)) (hpp : PPat e H [] pp pv) (htp : TPat H [] tt tv) (hE : tt.map (·.2) = pp.map (·.2)) (q : ∀ H', Q (.bl true) H') :
    lawA e { nx := fun _ H' => Q .non H', rt := Q } [some (.ref a), s1, some pv, some tv, none, none, none, none, none, none, none, none, none, none, none, none, none, none, none, none, none, none, none, none] H := by
  -- shape
  refine st_seq (st_asg (e_callx (e_cons (e_cell (k := 1) rfl ha fun z => ?_))))
  refine e_cons (val_c _ (e_cons (val_c _ (e_nil ?_))))
  refine ⟨z, 6, 1000, rfl, by decide, by decide, by decide, fun sh f H1 _ s1' h1 _ => ?_⟩
  have ha1 := s1'.seq ha
  dsimp only
  have vs : ∀ (k : Nat) (σ : L2.St) (H' : Hp), H' sh = some (.lst (rowI 6 f)) → σ[4]? = some (some (.ref sh)) → k < 6 → Val (tCB rInt1 (tCons (tOp (rIxL e.K) (tVar 4) (tC (.int (k : Int)))) tNil)) σ H' (.int (f k)) := fun k σ H' hh h4 hk => v_int (v_ixL (v_var h4) val_c hh (row_get (g := V.int) hk))
  have md : ∀ (x : Int) (m : Int), 0 < m → 0 ≤ x % m ∧ x % m < m := fun x m h => ⟨Int.emod_nonneg _ (by omega), Int.emod_lt_of_pos _ h⟩
  -- count
  refine st_seq (st_asg (e_op (e_lst (arg_cons val_c (arg_cons val_c (arg_cons val_c (arg_cons val_c arg_nil)))) (by show 4 ≤ 1000; decide) fun p2 n2 => ?_)))
  have s2 := same_new (o := .lst [V.int 4, .int 3, .int 5, .int 6]) n2
  have hp2 : upd H1 p2 (.lst [V.int 4, .int 3, .int 5, .int 6]) p2 = some (.lst [V.int 4, .int 3, .int 5, .int 6]) := upd_same
  have h2 := s2 _ _ h1
  have ha2 := s2.seq ha1
  have s02 := s1'.trans s2
  generalize upd H1 p2 (.lst [V.int 4, .int 3, .int 5, .int 6]) = H2 at *
  obtain ⟨count, hcm, hca⟩ := pick (xs := [4, 3, 5, 6]) (m := f 0 % 4) rfl (md _ _ (by decide))
  have c3 : 3 ≤ count ∧ count ≤ 6 := by
    simp only [List.mem_cons, List.not_mem_nil, or_false] at hcm
    omega
  refine v_mod (vs 0 _ _ h2 rfl (by decide)) val_c (by decide) _ ⟨p2, _, _, _, rfl, rfl, SqL.of hp2, hca, ?_⟩
  dsimp only
  -- first, second
  refine st_seq (st_set (v_mod (vs 1 _ _ h2 rfl (by decide)) (v_var rfl) (by omega)) ?_)
  dsimp only
  generalize f 1 % (count : Int) = first
  refine st_seq (st_set (v_mod (v_int (v_add (v_add (v_var rfl) val_c) (v_mod (vs 2 _ _ h2 rfl (by decide)) (v_sub (v_var rfl) val_c) (by omega)))) (v_var rfl) (by omega)) ?_)
  dsimp only
  generalize (first + 1 + f 2 % ((count : Int) - 1)) % (count : Int) = second
  -- names
  refine st_seq (st_asg ?_)
  refine v_lcR (n := count) (keep := fun k => (!decide ((k : Int) = first)) && !decide ((k : Int) = second)) (el := fun k => .int (k : Int)) (v_var rfl) (by omega) (fun i L acc hi _ => ans_and2 (a_neI (v_var rfl) (v_var rfl) rfl) (a_neI (v_var rfl) (v_var rfl) rfl)) (fun i L acc hi _ _ => v_var rfl) (fun _ => rfl) fun nl nnl => ?_
  have hnames := names_of ((List.range count).filter fun k : Nat => (!decide ((k : Int) = first)) && !decide ((k : Int) = second))
  have hnpos : 0 < ((List.range count).filter fun k : Nat => (!decide ((k : Int) = first)) && !decide ((k : Int) = second)).length := by
    have ex : ∃ k : Nat, k < 3 ∧ (k : Int) ≠ first ∧ (k : Int) ≠ second := by
      by_cases h0 : (0 : Int) ≠ first ∧ (0 : Int) ≠ second
      · exact ⟨0, by omega, h0⟩
      · by_cases h1 : (1 : Int) ≠ first ∧ (1 : Int) ≠ second
        · exact ⟨1, by omega, h1⟩
        · exact ⟨2, by omega, by omega, by omega⟩
    obtain ⟨k, k1, k2, k3⟩ := ex
    exact List.length_pos_of_mem (List.mem_filter.mpr ⟨List.mem_range.mpr (show k < count by omega), by simp [k2, k3]⟩)
  have hnlt : ∀ i, i < ((List.range count).filter fun k : Nat => (!decide ((k : Int) = first)) && !decide ((k : Int) = second)).length → ((List.range count).filter fun k : Nat => (!decide ((k : Int) = first)) && !decide ((k : Int) = second)).getD i 0 < count := fun i hi => by
    rw [List.getD_eq_getElem?_getD, List.getElem?_eq_getElem hi]
    exact List.mem_range.mp (List.mem_filter.mp (List.getElem_mem hi)).1
  rw [hnames]
  generalize ((List.range count).filter fun k : Nat => (!decide ((k : Int) = first)) && !decide ((k : Int) = second)) = nmL at *
  have s3 := same_new (o := .lst (rowN nmL.length fun i => nmL.getD i 0)) nnl
  have hnl3 : upd H2 nl (.lst (rowN nmL.length fun i => nmL.getD i 0)) nl = some (.lst (rowN nmL.length fun i => nmL.getD i 0)) := upd_same
  have h3 := s3 _ _ h2
  have ha3 := s3.seq ha2
  have s03 := s02.trans s3
  generalize upd H2 nl (.lst (rowN nmL.length fun i => nmL.getD i 0)) = H3 at *
  dsimp only
  -- words
  refine st_seq (st_asg (e_op (e_lst (arg_cons val_c (arg_cons val_c (arg_cons val_c (arg_cons val_c (arg_cons val_c arg_nil))))) (by show 5 ≤ 1000; decide) fun p4 n4 => ?_)))
  have s4 := same_new (o := .lst [V.int 2, .int 3, .int 1, .int 4, .int 5]) n4
  have hp4 : upd H3 p4 (.lst [V.int 2, .int 3, .int 1, .int 4, .int 5]) p4 = some (.lst [V.int 2, .int 3, .int 1, .int 4, .int 5]) := upd_same
  have h4 := s4 _ _ h3
  have hnl4 := s4 _ _ hnl3
  have ha4 := s4.seq ha3
  have s04 := s03.trans s4
  generalize upd H3 p4 (.lst [V.int 2, .int 3, .int 1, .int 4, .int 5]) = H4 at *
  obtain ⟨words, hwm, hwa⟩ := pick (xs := [2, 3, 1, 4, 5]) (m := f 3 % 5) rfl (md _ _ (by decide))
  have w15 : 1 ≤ words ∧ words ≤ 5 := by
    simp only [List.mem_cons, List.not_mem_nil, or_false] at hwm
    omega
  refine v_mod (vs 3 _ _ h4 rfl (by decide)) val_c (by decide) _ ⟨p4, _, _, _, rfl, rfl, SqL.of hp4, hwa, ?_⟩
  dsimp only
  -- memory
  refine st_seq (st_asg (lc_over (e_callx (e_cons (e_cell (k := 2) rfl ha4 fun z2 => ?_)))))
  refine e_cons (v_var rfl _ (e_cons (v_shl val_c val_c ⟨by decide, by decide, by decide⟩ _ (e_nil ?_))))
  refine ⟨z2, words, 1 * 2 ^ 68, rfl, by omega, by decide, by decide, fun dr df H5 _ s5 h5 hdf => ?_⟩
  refine v_lcGL (K := e.K) (a := dr) (ys := rowI words df) (fun k v _ => ∃ z : Int, v = .int z ∧ 0 ≤ z ∧ z < 2 ^ 64) (fun _ _ _ _ _ h => h) val_c (SqL.of h5) (by rw [row_len]; omega) (fun i y H6 hy s6 Q' q' => ?_) (fun _ => rfl) fun ml xs H6 nml s6 hml len6 it6 _ => ?_
  · have hi : i < words := by
      have := (List.getElem?_eq_some_iff.mp hy).1
      rw [row_len] at this
      exact this
    rw [row_get (g := V.int) hi] at hy
    obtain rfl := Option.some.inj hy
    exact v_call (arg_cons (v_var rfl) (arg_cons (v_shl val_c val_c ⟨by decide, by decide, by decide⟩) arg_nil)) ⟨df i, 1 * 2 ^ 64, rfl, by decide, by decide, fun z H7 z0 z1 s7 => q' _ _ s7 ⟨z, rfl, z0, by
      have : (1 * 2 ^ 64 : Int) = 2 ^ 64 := by decide
      omega⟩⟩
  rw [row_len] at len6
  obtain ⟨g, rfl, hg⟩ := ints_of len6 fun k v hv => it6 k v hv
  have s06 := s04.trans (s5.trans s6)
  have h6 := s6 _ _ (s5 _ _ h4)
  have hnl6 := s6 _ _ (s5 _ _ hnl4)
  have ha6 := s6.seq (s5.seq ha4)
  clear it6
  dsimp only
  let X0 : Nat → Col := fun w => ⟨fun _ => 0, fun _ => 0, g w⟩
  have ok0 : ∀ w, (X0 w).Ok (pN pp) := fun w => ⟨fun _ => Nat.zero_le _, fun _ _ => rfl, fun _ => ⟨by show (0 : Int) ≤ 0; decide, by show (0 : Int) < 2 ^ 64; decide⟩, hg w⟩
  have pt : ∀ G, Same H G → ∀ b, b ∈ pDom pp → ∃ o, G b = some o := fun G s b hb => by
    obtain ⟨o, ho⟩ := pDom_there hpp hb
    exact ⟨o, s _ _ ho⟩
  have tth : ∀ G, Same H G → ∀ b, b ∈ tDom tt → ∃ o, G b = some o := fun G s b hb => by
    obtain ⟨o, ho⟩ := tDom_there htp hb
    exact ⟨o, s _ _ ho⟩
  -- caches
  refine st_seq (st_asg (e_make ?_))
  refine e_cons ?_
  refine v_var rfl _ ?_
  refine e_cons ?_
  refine v_var rfl _ ?_
  refine e_cons ?_
  refine e_lstL (v_var rfl) (SqL.of hml) fun m2 nm2 => ?_
  have s7 := same_new (o := .lst (rowI words g)) nm2
  have hm27 : upd H6 m2 (.lst (rowI words g)) m2 = some (.lst (rowI words g)) := upd_same
  have s07 := s06.trans s7
  have h7 := s7 _ _ h6
  have hnl7 := s7 _ _ hnl6
  have ha7 := s7.seq ha6
  have hml7 := s7 _ _ hml
  generalize upd H6 m2 (.lst (rowI words g)) = H7 at *
  refine e_nil fun x dx hx hdx hne => ?_
  have sN := new2 (o := .ins e.Caches dx []) (u := .own x) hx hdx
  refine ⟨x, dx, pv, count, words, g, m2, rfl, upd_same, SqL.of (sN _ _ hm27), by omega, by omega, fun r H8 hrp ca8 new8 old8 => ⟨rfl, ?_⟩⟩
  have s8 : Same H7 H8 := fun b o hb => old8 _ _ (sN _ _ hb) (ne_of_none hb hx)
  have nr : ∀ b, b ∈ r.dom count → H7 b = none := fun b hb => by
    by_cases hbp : b = r.p
    · rw [hbp, hrp]
      exact hx
    · have h := new8 b hb (by rw [← hrp]; exact hbp)
      cases hz : H7 b with
      | none => rfl
      | some o =>
        rw [sN _ _ hz] at h
        cases h
  subst hrp
  have s08 := s07.trans s8
  have hml8 := s8 _ _ hml7
  have h8 := s8 _ _ h7
  have hnl8 := s8 _ _ hnl7
  have ha8 := s8.seq ha7
  dsimp only
  -- parts
  refine st_seq (st_asg ?_)
  refine v_lcGL (K := e.K) (a := ml) (ys := rowI words g) (RC e count pv X0) (fun k v A B s ⟨r, h1, h2⟩ => ⟨r, h1, h2.same s⟩) (v_var rfl) (SqL.of hml8) (by rw [row_len]; omega) (fun i y H9 hy s9 Q' q' => ?_) (fun _ => rfl) fun pa xs H9 npa s9 hpa len9 it9 ap9 => ?_
  · have hi : i < words := by
      have := (List.getElem?_eq_some_iff.mp hy).1
      rw [row_len] at this
      exact this
    rw [row_get (g := V.int) hi] at hy
    obtain rfl := Option.some.inj hy
    refine e_make ?_
    refine e_cons ?_
    refine v_var rfl _ ?_
    refine e_cons ?_
    refine v_var rfl _ ?_
    refine e_cons ?_
    refine e_lst (arg_cons (v_var rfl) arg_nil) (by show 1 ≤ 1000; decide) fun m3 nm3 => ?_
    have sa := same_new (o := .lst [V.int (g i)]) nm3
    have hm3 : upd H9 m3 (.lst [V.int (g i)]) m3 = some (.lst [V.int (g i)]) := upd_same
    generalize upd H9 m3 (.lst [V.int (g i)]) = Ha at *
    refine e_nil fun x dx hx hdx hne => ?_
    have sN := new2 (o := .ins e.Caches dx []) (u := .own x) hx hdx
    refine ⟨x, dx, pv, count, 1, fun _ => g i, m3, rfl, upd_same, SqL.of (sN _ _ hm3), by omega, by omega, fun r' Hb hrp cab newb oldb => ⟨rfl, ?_⟩⟩
    have sb : Same H9 Hb := fun b o hb => oldb _ _ (sN _ _ (sa _ _ hb)) (ne_of_none (sa _ _ hb) hx)
    rw [← hrp]
    refine q' _ _ sb ⟨r', rfl, cab.frame fun b o hb ho => mi_of ho ?_⟩
    cases hz : H9 b with
    | none => rfl
    | some o2 =>
      by_cases hbp : b = x
      · have := sa _ _ hz
        rw [hbp, hx] at this
        cases this
      · have h := newb b hb hbp
        rw [sN _ _ (sa _ _ hz)] at h
        cases h
  rw [row_len] at len9
  obtain ⟨pr, hpal, hpc, npr, pqr⟩ := parts_of npa hpa len9 it9 ap9
  clear it9 ap9
  have s09 := s08.trans s9
  have ca9 := ca8.same s9
  have hml9 := s9 _ _ hml8
  have h9 := s9 _ _ h8
  have hnl9 := s9 _ _ hnl8
  have ha9 := s9.seq ha8
  dsimp only
  -- lines
  refine st_seq (st_asg (v_call (arg_cons (v_var rfl) (arg_cons (v_var rfl) arg_nil)) ⟨ml, count, words, g, rfl, hml9, by omega, by omega, fun la lr H10 s10 ll nll => ?_⟩))
  dsimp only
  have s010 := s09.trans s10
  have h10 := s10 _ _ h9
  have hnl10 := s10 _ _ hnl9
  have ha10 := s10.seq ha9
  obtain ⟨lap1, lap2⟩ := ll_apart ll.nd
  have inL : ∀ w, w < words → ∀ b, b ∈ (lr w).dom → H9 b = none := fun w hw b hb => nll b (List.mem_cons_of_mem _ (List.mem_flatMap.mpr ⟨w, List.mem_range.mpr hw, hb⟩))
  have S : LS count words r pa la pr lr pp tt :=
    ⟨fun w hw b hb m => notnew (ca8.there hb) (npr w hw b m).1, fun w hw b hb m => notnew (ca9.there hb) (inL w hw b m), fun v w hv hw b hb m => notnew ((hpc v hv).there hb) (inL w hw b m), pqr, lap2,
      fun m => notnew (ca8.there m) npa, fun w hw m => (npr w hw _ m).2 rfl, fun w hw m => notnew ⟨_, hpal⟩ (inL w hw _ m),
      fun m => notnew (ca9.there m) (nll _ (List.mem_cons_self ..)), fun w hw m => notnew ((hpc w hw).there m) (nll _ (List.mem_cons_self ..)), lap1,
      fun w hw b hb m => notnew (pt _ s09 b hb) (inL w hw b m), fun b hb m => notnew (tth _ s07 b hb) (nr b m), fun w hw b hb m => notnew (tth _ s08 b hb) (npr w hw b m).1, fun w hw b hb m => notnew (tth _ s09 b hb) (inL w hw b m)⟩
  have W : LW e H10 count words r pa la pr lr pp pv tt tv X0 := by
    refine ⟨⟨ca9.same s10, hpp.to (fun b o _ z => s010 _ _ z) fun b hb m => notnew (pt _ s07 b hb) (nr b m), ok0⟩, ⟨s10 _ _ hpal, fun w hw => ⟨(hpc w hw).same s10, hpp.to (fun b o _ z => s010 _ _ z) fun b hb m => notnew (pt _ s08 b hb) (npr w hw b m).1, fun _ => ok0 w⟩⟩, ⟨ll.hd, ll.at_⟩, htp.fr2 (fun b o _ z => s010 _ _ z) fun b _ m => nomatch m⟩
  -- accesses
  obtain ⟨mo, hmo⟩ : ∃ m : Nat, f 4 % 19 = (m : Int) := ⟨(f 4 % 19).toNat, by have := md (f 4) 19 (by decide); omega⟩
  have mo19 : mo < 19 := by have := md (f 4) 19 (by decide); omega
  refine st_seq (st_asg (e_callx (e_cons (e_cell (k := 3) rfl ha10 fun z3 => ?_))))
  refine e_cons (v_is (w := .int ((6 + mo : Nat) : Int)) (v_add val_c (v_mod (vs 4 _ _ h10 rfl (by decide)) val_c (by decide))) (congrArg V.int (by rw [hmo]; omega)) _ ?_)
  refine e_cons (v_var rfl _ (e_cons (v_var rfl _ (e_nil ?_))))
  refine ⟨z3, 6 + mo, nl, nmL.length, fun i => nmL.getD i 0, count, words, rfl, by omega, hnl10, hnpos, hnlt, by omega, by omega, fun al ta ac H11 nal s11 hal hta => ?_⟩
  have W11 := W.same s11
  have h11 := s11 _ _ h10
  dsimp only
  -- cut
  have vlen := v_lenL (K := e.K) (ta := tVar 14) (σ := [some (.ref a), s1, some pv, some tv, some (.ref sh), some (.int (count : Int)), some (.int first), some (.int second), some (.ref nl), some (.int (words : Int)), some (.ref ml), some (.ref r.p), some (.ref pa), some (.ref la), some (.ref al), none, none, none, none, none, none, none, none, none]) (v_var rfl) hal
  rw [row_len] at vlen
  obtain ⟨ct, hct⟩ : ∃ m : Nat, f 5 % ((6 + mo : Nat) : Int) = (m : Int) := ⟨(f 5 % ((6 + mo : Nat) : Int)).toNat, by have := md (f 5) ((6 + mo : Nat) : Int) (by omega); omega⟩
  refine st_seq (st_set (v_is (w := .int (ct : Int)) (v_mod (vs 5 _ _ h11 rfl (by decide)) vlen (by omega)) (congrArg V.int hct)) ?_)
  dsimp only
  -- other, mine
  refine st_seq (st_asg (v_meth (i := 11) rfl W11.cp.ca rfl arg_nil ⟨count, words, r, pv, X0, rfl, W11.cp.ca, by omega, by omega, fun r2 H12 s12 ca12 n12 => ?_⟩))
  dsimp only
  have W12 := W11.same s12
  refine st_seq (st_asg (v_call (arg_cons (v_var rfl) arg_nil) ⟨la, count, words, lr, X0, rfl, ⟨W12.lg.1, W12.lg.2, ll.nd⟩, by omega, fun la2 lr2 H13 s13 l13 n13 => ?_⟩))
  dsimp only
  have hta' : ∀ j, j < 6 + mo → H11 (ta j) = some (.tup (accV (ac j))) := fun j hj => (hta j hj).1
  have O := OS.of_new (many := 6 + mo) (ac := ac) W11 s12 ca12 n12 n13 hta'
  exact p_lawB T (W12.same s13) S ll.nd hE (by omega) (by omega) (by omega) (s13 _ _ (s12 _ _ hal)) (by omega) (fun j hj => ⟨s13 _ _ (s12 _ _ (hta j hj).1), (hta j hj).2.1⟩) (fun m => notnew (W.there m) nal) (fun j hj m => notnew (W.there m) (hta j hj).2.2)
    ⟨ca12.same s13, W11.cp.pr.to (fun b o _ z => s13 _ _ (s12 _ _ z)) O.pdr, ok0⟩ l13 O q
end
end Cm
set_option maxHeartbeats 1000000
namespace Cm
open PySem PySem.Spec L2
section
variable {e : En} (T : Tx e)
include T
theorem p_law (vs : List V) (H : Hp) (Q : VK) (E : XK) (h : sp_law e vs H Q E) : t_law e { nx := fun _ H' => Q .non H', rt := Q } (start N_law vs) H := by
  obtain ⟨a, ns, rfl, ha, hlen, q⟩ := h
  refine st_seq (st_asg (e_callx (e_cons (e_cell (k := 0) rfl ha fun z => e_nil ⟨z, rfl, fun H1 s1 => ?_, fun nm p H1 hn ok s1 => ?_⟩))))
  · dsimp only
    refine st_seq (st_asg (e_if (ans_isN (v_var rfl) (decide_eq_true rfl)) (fun _ => val_c _ ?_) fun z => nomatch z))
    dsimp only
    refine st_seq (st_asg (e_if (ans_isN (v_var rfl) (decide_eq_true rfl)) (fun _ => val_c _ ?_) fun z => nomatch z))
    dsimp only
    exact p_lawA T (pp := none) (tt := none) (s1.seq ha) rfl rfl rfl q
  · dsimp only
    refine st_seq (st_asg (e_if (ans_isN (v_var rfl) (decide_eq_false (fun z => nomatch z))) (fun z => nomatch z) fun _ => ?_))
    refine v_call (arg_cons (v_var rfl) arg_nil) ⟨nm, p, rfl, hn, ok, fun r H2 s2 sc _ => ?_⟩
    dsimp only
    refine st_seq (st_asg (e_if (ans_isN (v_var rfl) (decide_eq_false (fun z => nomatch z))) (fun z => nomatch z) fun _ => ?_))
    refine v_call (arg_cons (v_var rfl) arg_nil) ⟨nm, p, rfl, hn, ok, fun t H3 s3 tb _ => ?_⟩
    dsimp only
    exact p_lawA T (pp := some (r, p)) (tt := some (t, p)) ((s1.trans (s2.trans s3)).seq ha) ⟨rfl, sc.frame fun b o _ z => s3 _ _ z, ok, fun b _ m => nomatch m⟩ ⟨rfl, tb, ok, fun b _ m => nomatch m⟩ rfl q
end
end Cm
set_option maxHeartbeats 4000000
namespace Cm
open PySem PySem.Spec PyProof.Rows L2
def s_merge : Stmt := top 2
theorem sc_merge : FnScope N_merge ["old", "new", "cover"] (defScope s_merge) := ⟨rfl, rfl, rfl, by decide +kernel, rfl, by decide +kernel, by decide +kernel⟩
theorem d_merge {P : Program} {w : World} {mg : Str → Option Value} {base : Heap} {e : En} (T : Txt e mg) {f : Addr} {cdv : Value} {A : Around} {outer : List Env} {s : Shared} {H : Hp} {E : XK} (hr : Room 0 (A.deeper (envOfC "merge" (defScope s_merge) s.heap.objs.size f cdv))) :
    PSs (cxOf CX0 P w e.K mg base N_merge "merge" (defScope s_merge) f cdv A outer s H E).nox (defBody s_merge) (t_merge e) := by
    exact (pss_cons (ps_set (i := 3) sc_merge.nd rfl (Or.inl rfl) pe_int)
    (pss_cons (ps_for PassesOwn.never rfl (pi_range1 rfl T.f_range (pa_cons (pe_bits (pv 2)) pa_nil)) (pg_name (i := 4) sc_merge.nd rfl (Or.inl rfl))
    (pss_one (ps_if (pt_cmpR op_eq (pe_op op_and (pe_op op_shr (pv 2) (pv 4)) pe_int) pe_int (nomark _))
    (pss_one (ps_set (i := 3) sc_merge.nd rfl (Or.inl rfl) (pe_op op_or (pv 3) (pe_op op_shl (C8.pe_gc rfl T.g_BYTE) (pe_op op_mul pe_int (pv 4))))))
    pss_nil)))
    (pss_one (ps_ret (pe_op op_or (pe_op op_and (pv 0) (pe_un un_inv (pv 3))) (pe_op op_and (pv 1) (pv 3)))))))
theorem k_merge {P : Program} {w : World} {mg : Str → Option Value} {base : Heap} {e : En} {f : Addr} {fd : FuncData} (T : Txt e mg) (F : FunD e.K "merge" "merge" (defArgs s_merge) (defBody s_merge) (defScope s_merge) [] [] f fd) (m : mg "merge" = some (.ref f)) (hl : ∀ vs H Q E, (sp_merge e) vs H Q E → vs.length = ["old", "new", "cover"].length) (hp : ∀ vs H Q E, (sp_merge e) vs H Q E → (t_merge e) { nx := fun _ H' => Q .non H', rt := Q } (start N_merge vs) H) : C8.Cal P w e.K mg base 1 "merge" (sp_merge e) [] :=
  ⟨f, fd, ["old", "new", "cover"], [], (F.ok sc_merge hl (fun cdv A outer s H vs Q E hr h => ⟨t_merge e, PSs.nox (d_merge T hr), hp vs H Q E h⟩)), m, F.kp, (F.bindsN fun _ _ _ _ _ _ us hl => match us, hl with | [_, _, _], _ => rfl), .nil⟩
def s_Caches___init__ : Stmt := inClass (top 4) 0
theorem sc_Caches___init__ : FnScope N_Caches___init__ ["self", "protocol", "count", "memory"] (defScope s_Caches___init__) := ⟨rfl, rfl, rfl, by decide +kernel, rfl, by decide +kernel, by decide +kernel⟩
theorem d_Caches___init__ {P : Program} {w : World} {mg : Str → Option Value} {base : Heap} {e : En} (T : Txt e mg) {f : Addr} {cdv : Value} {A : Around} {outer : List Env} {s : Shared} {H : Hp} {E : XK} (hr : Room 0 (A.deeper (envOfC "Caches.__init__" (defScope s_Caches___init__) s.heap.objs.size f cdv))) :
    PSs (cxOf CX0 P w e.K mg base N_Caches___init__ "Caches.__init__" (defScope s_Caches___init__) f cdv A outer s H E).nox (defBody s_Caches___init__) (t_Caches___init__ e) := by
    exact (pss_cons (ps_fld (pv 0) (pv 1) rfl)
    (pss_cons (ps_fld (pv 0) (pe_callTy call_list_of rfl T.f_list (by decide +kernel) (pa_cons (pv 3) pa_nil)) rfl)
    (pss_cons (ps_fld (pv 0) (pe_lc (own := [("cache", 4)]) (g := (gName 4)) (tt := tYes) rfl sc_Caches___init__.nd (pi_range1 rfl T.f_range (pa_cons (pv 2) pa_nil)) (blkOk_by (own := [("cache", 4)]) (N := N_Caches___init__) (sc := defScope s_Caches___init__) (by decide +kernel)) (fun _ _ _ _ _ => (pg_name (i := 4) sc_Caches___init__.nd rfl (Or.inl rfl))) (fun _ _ _ _ _ => pts_nil) (fun _ _ _ _ _ => (pe_op op_rep (pe_lst (pa_cons pe_int pa_nil)) (pe_callB call_len_seq rfl T.f_len (by decide +kernel) (pa_cons (pv 3) pa_nil))))) rfl)
    (pss_one (ps_fld (pv 0) (pe_lc (own := [("cache", 4)]) (g := (gName 4)) (tt := tYes) rfl sc_Caches___init__.nd (pi_range1 rfl T.f_range (pa_cons (pv 2) pa_nil)) (blkOk_by (own := [("cache", 4)]) (N := N_Caches___init__) (sc := defScope s_Caches___init__) (by decide +kernel)) (fun _ _ _ _ _ => (pg_name (i := 4) sc_Caches___init__.nd rfl (Or.inl rfl))) (fun _ _ _ _ _ => pts_nil) (fun _ _ _ _ _ => (pe_op op_rep (pe_lst (pa_cons pe_int pa_nil)) (pe_callB call_len_seq rfl T.f_len (by decide +kernel) (pa_cons (pv 3) pa_nil))))) rfl)))))
theorem k_Caches___init__ {P : Program} {w : World} {mg : Str → Option Value} {base : Heap} {e : En} {f : Addr} {fd : FuncData} (T : Txt e mg) (F : FunD e.K "__init__" "Caches.__init__" (defArgs s_Caches___init__) (defBody s_Caches___init__) (defScope s_Caches___init__) [] [] f fd) (m : mg "Caches" = some (.ref e.Caches)) (M : Mk e.K e.Caches f) (hl : ∀ vs H Q E, (sp_Caches___init__ e) vs H Q E → vs.length = ["self", "protocol", "count", "memory"].length) (hp : ∀ vs H Q E, (sp_Caches___init__ e) vs H Q E → (t_Caches___init__ e) { nx := fun _ H' => Q .non H', rt := Q } (start N_Caches___init__ vs) H) : C8.Mak P w e.K mg base 1 "Caches" e.Caches (sp_Caches___init__ e) [] :=
  ⟨f, fd, ["self", "protocol", "count", "memory"], [], M, (F.ok sc_Caches___init__ hl (fun cdv A outer s H vs Q E hr h => ⟨t_Caches___init__ e, PSs.nox (d_Caches___init__ T hr), hp vs H Q E h⟩)), m, (F.bindsN fun _ _ _ _ _ _ us hl => match us, hl with | [_, _, _, _], _ => rfl), .nil⟩
def s_Caches_others : Stmt := inClass (top 4) 1
theorem sc_Caches_others : FnScope N_Caches_others ["self", "c", "word"] (defScope s_Caches_others) := ⟨rfl, rfl, rfl, by decide +kernel, rfl, by decide +kernel, by decide +kernel⟩
theorem d_Caches_others {P : Program} {w : World} {mg : Str → Option Value} {base : Heap} {e : En} (T : Txt e mg) {f : Addr} {cdv : Value} {A : Around} {outer : List Env} {s : Shared} {H : Hp} {E : XK} (hr : Room 0 (A.deeper (envOfC "Caches.others" (defScope s_Caches_others) s.heap.objs.size f cdv))) :
    PSs (cxOf CX0 P w e.K mg base N_Caches_others "Caches.others" (defScope s_Caches_others) f cdv A outer s H E).nox (defBody s_Caches_others) (t_Caches_others e) := by
    exact (pss_one (ps_ret (pe_lc (own := [("k", 3)]) (g := (gName 3)) (tt := (tAnd (tTest (tOp rNe (tVar 3) (tVar 1))) (tTest (tOp (rI0 fun i j => .bl (decide (j < i))) (tOp (rIxL e.K) (tOp (rIxL e.K) (tFld e.K (tVar 0) "states") (tVar 3)) (tVar 2)) (tC (.int 0)))))) rfl sc_Caches_others.nd (pi_range1 rfl T.f_range (pa_cons (pe_callB call_len_seq rfl T.f_len (by decide +kernel) (pa_cons (pe_fld (pv 0) rfl) pa_nil)) pa_nil)) (blkOk_by (own := [("k", 3)]) (N := N_Caches_others) (sc := defScope s_Caches_others) (by decide +kernel)) (fun _ _ _ _ _ => (pg_name (i := 3) sc_Caches_others.nd rfl (Or.inl rfl))) (fun _ _ _ _ _ => (pts_one (PW.pt (pw_and (pt_cmpR op_ne (pv 3) (pv 1) (nomark _)) (pw_and1 (pt_cmpR op_gt (pe_ix ix_list (pe_ix ix_list (pe_fld (pv 0) rfl) (pv 3) (fun _ _ => rfl)) (pv 2) (fun _ _ => rfl)) pe_int (nomark _))))))) (fun _ _ _ _ _ => (pv 3)))))
theorem k_Caches_others {P : Program} {w : World} {mg : Str → Option Value} {base : Heap} {e : En} {f : Addr} {fd : FuncData} (T : Txt e mg) (F : FunD e.K "others" "Caches.others" (defArgs s_Caches_others) (defBody s_Caches_others) (defScope s_Caches_others) [] [] f fd) (cl : Cls e.K e.Caches) (me : Meth e.K e.Caches "others" f) (hl : ∀ vs H Q E, (sp_Caches_others e) vs H Q E → vs.length = ["self", "c", "word"].length) (hp : ∀ vs H Q E, (sp_Caches_others e) vs H Q E → (t_Caches_others e) { nx := fun _ H' => Q .non H', rt := Q } (start N_Caches_others vs) H) : C8.Met P w e.K mg base 1 e.Caches "others" (sp_Caches_others e) [] :=
  ⟨f, fd, ["self", "c", "word"], [], cl, me, (F.ok sc_Caches_others hl (fun cdv A outer s H vs Q E hr h => ⟨t_Caches_others e, PSs.nox (d_Caches_others T hr), hp vs H Q E h⟩)), (F.bindsN fun _ _ _ _ _ _ us hl => match us, hl with | [_, _, _], _ => rfl), .nil⟩
def s_Caches_clean : Stmt := inClass (top 4) 2
theorem sc_Caches_clean : FnScope N_Caches_clean ["self", "holders", "word", "cleaning"] (defScope s_Caches_clean) := ⟨rfl, rfl, rfl, by decide +kernel, rfl, by decide +kernel, by decide +kernel⟩
theorem d_Caches_clean {P : Program} {w : World} {mg : Str → Option Value} {base : Heap} {e : En} (T : Txt e mg) {f : Addr} {cdv : Value} {A : Around} {outer : List Env} {s : Shared} {H : Hp} {E : XK} (hr : Room 0 (A.deeper (envOfC "Caches.clean" (defScope s_Caches_clean) s.heap.objs.size f cdv))) :
    PSs (cxOf CX0 P w e.K mg base N_Caches_clean "Caches.clean" (defScope s_Caches_clean) f cdv A outer s H E).nox (defBody s_Caches_clean) (t_Caches_clean e) := by
    exact (pss_one (ps_for PassesOwn.never rfl (pi_list (pv 1)) (pg_name (i := 4) sc_Caches_clean.nd rfl (Or.inl rfl))
    (pss_one (ps_if (pt_val (pe_ix ix_list (pv 3) (pe_ix ix_list (pe_ix ix_list (pe_fld (pv 0) rfl) (pv 4) (fun _ _ => rfl)) (pv 2) (fun _ _ => rfl)) (fun _ _ => rfl)))
    (pss_one (ps_asg (pe_ix ix_list (pe_ix ix_list (pe_fld (pv 0) rfl) (pv 4) (fun _ _ => rfl)) (pv 2) (fun _ _ => rfl)) (pg_sub (pe_fld (pv 0) rfl) (pv 2) set_list)))
    pss_nil))))
theorem k_Caches_clean {P : Program} {w : World} {mg : Str → Option Value} {base : Heap} {e : En} {f : Addr} {fd : FuncData} (T : Txt e mg) (F : FunD e.K "clean" "Caches.clean" (defArgs s_Caches_clean) (defBody s_Caches_clean) (defScope s_Caches_clean) [] [] f fd) (cl : Cls e.K e.Caches) (me : Meth e.K e.Caches "clean" f) (hl : ∀ vs H Q E, (sp_Caches_clean e) vs H Q E → vs.length = ["self", "holders", "word", "cleaning"].length) (hp : ∀ vs H Q E, (sp_Caches_clean e) vs H Q E → (t_Caches_clean e) { nx := fun _ H' => Q .non H', rt := Q } (start N_Caches_clean vs) H) : C8.Met P w e.K mg base 1 e.Caches "clean" (sp_Caches_clean e) [] :=
  ⟨f, fd, ["self", "holders", "word", "cleaning"], [], cl, me, (F.ok sc_Caches_clean hl (fun cdv A outer s H vs Q E hr h => ⟨t_Caches_clean e, PSs.nox (d_Caches_clean T hr), hp vs H Q E h⟩)), (F.bindsN fun _ _ _ _ _ _ us hl => match us, hl with | [_, _, _, _], _ => rfl), .nil⟩
def s_Caches_fetched : Stmt := inClass (top 4) 3
theorem sc_Caches_fetched : FnScope N_Caches_fetched ["self", "holders", "word", "giving"] (defScope s_Caches_fetched) := ⟨rfl, rfl, rfl, by decide +kernel, rfl, by decide +kernel, by decide +kernel⟩
theorem d_Caches_fetched {P : Program} {w : World} {mg : Str → Option Value} {base : Heap} {e : En} (T : Txt e mg) {f : Addr} {cdv : Value} {A : Around} {outer : List Env} {s : Shared} {H : Hp} {E : XK} (hr : Room 0 (A.deeper (envOfC "Caches.fetched" (defScope s_Caches_fetched) s.heap.objs.size f cdv))) :
    PSs (cxOf CX0 P w e.K mg base N_Caches_fetched "Caches.fetched" (defScope s_Caches_fetched) f cdv A outer s H E).nox (defBody s_Caches_fetched) (t_Caches_fetched e) := by
    exact (pss_cons (ps_for PassesOwn.never rfl (pi_list (pv 1)) (pg_name (i := 4) sc_Caches_fetched.nd rfl (Or.inl rfl))
    (pss_one (ps_if (pt_val (pe_ix ix_list (pv 3) (pe_ix ix_list (pe_ix ix_list (pe_fld (pv 0) rfl) (pv 4) (fun _ _ => rfl)) (pv 2) (fun _ _ => rfl)) (fun _ _ => rfl)))
    (pss_one (ps_ret (pe_ix ix_list (pe_ix ix_list (pe_fld (pv 0) rfl) (pv 4) (fun _ _ => rfl)) (pv 2) (fun _ _ => rfl))))
    pss_nil)))
    (pss_one (ps_ret (pe_ix ix_list (pe_fld (pv 0) rfl) (pv 2) (fun _ _ => rfl)))))
theorem k_Caches_fetched {P : Program} {w : World} {mg : Str → Option Value} {base : Heap} {e : En} {f : Addr} {fd : FuncData} (T : Txt e mg) (F : FunD e.K "fetched" "Caches.fetched" (defArgs s_Caches_fetched) (defBody s_Caches_fetched) (defScope s_Caches_fetched) [] [] f fd) (cl : Cls e.K e.Caches) (me : Meth e.K e.Caches "fetched" f) (hl : ∀ vs H Q E, (sp_Caches_fetched e) vs H Q E → vs.length = ["self", "holders", "word", "giving"].length) (hp : ∀ vs H Q E, (sp_Caches_fetched e) vs H Q E → (t_Caches_fetched e) { nx := fun _ H' => Q .non H', rt := Q } (start N_Caches_fetched vs) H) : C8.Met P w e.K mg base 1 e.Caches "fetched" (sp_Caches_fetched e) [] :=
  ⟨f, fd, ["self", "holders", "word", "giving"], [], cl, me, (F.ok sc_Caches_fetched hl (fun cdv A outer s H vs Q E hr h => ⟨t_Caches_fetched e, PSs.nox (d_Caches_fetched T hr), hp vs H Q E h⟩)), (F.bindsN fun _ _ _ _ _ _ us hl => match us, hl with | [_, _, _, _], _ => rfl), .nil⟩
def s_Caches_move : Stmt := inClass (top 4) 4
theorem sc_Caches_move : FnScope N_Caches_move ["self", "c", "word", "state"] (defScope s_Caches_move) := ⟨rfl, rfl, rfl, by decide +kernel, rfl, by decide +kernel, by decide +kernel⟩
theorem d_Caches_move {P : Program} {w : World} {mg : Str → Option Value} {base : Heap} {e : En} (T : Txt e mg) {f : Addr} {cdv : Value} {A : Around} {outer : List Env} {s : Shared} {H : Hp} {E : XK} (hr : Room 0 (A.deeper (envOfC "Caches.move" (defScope s_Caches_move) s.heap.objs.size f cdv))) :
    PSs (cxOf CX0 P w e.K mg base N_Caches_move "Caches.move" (defScope s_Caches_move) f cdv A outer s H E).nox (defBody s_Caches_move) (t_Caches_move e) := by
    exact (pss_cons (ps_asg (pv 3) (pg_sub (pe_ix ix_list (pe_fld (pv 0) rfl) (pv 1) (fun _ _ => rfl)) (pv 2) set_list))
    (pss_one (ps_if (pt_cmpR op_eq (pv 3) pe_int (nomark _))
    (pss_one (ps_asg pe_int (pg_sub (pe_ix ix_list (pe_fld (pv 0) rfl) (pv 1) (fun _ _ => rfl)) (pv 2) set_list)))
    pss_nil)))
theorem k_Caches_move {P : Program} {w : World} {mg : Str → Option Value} {base : Heap} {e : En} {f : Addr} {fd : FuncData} (T : Txt e mg) (F : FunD e.K "move" "Caches.move" (defArgs s_Caches_move) (defBody s_Caches_move) (defScope s_Caches_move) [] [] f fd) (cl : Cls e.K e.Caches) (me : Meth e.K e.Caches "move" f) (hl : ∀ vs H Q E, (sp_Caches_move e) vs H Q E → vs.length = ["self", "c", "word", "state"].length) (hp : ∀ vs H Q E, (sp_Caches_move e) vs H Q E → (t_Caches_move e) { nx := fun _ H' => Q .non H', rt := Q } (start N_Caches_move vs) H) : C8.Met P w e.K mg base 1 e.Caches "move" (sp_Caches_move e) [] :=
  ⟨f, fd, ["self", "c", "word", "state"], [], cl, me, (F.ok sc_Caches_move hl (fun cdv A outer s H vs Q E hr h => ⟨t_Caches_move e, PSs.nox (d_Caches_move T hr), hp vs H Q E h⟩)), (F.bindsN fun _ _ _ _ _ _ us hl => match us, hl with | [_, _, _, _], _ => rfl), .nil⟩
def s_Caches_load : Stmt := inClass (top 4) 5
theorem sc_Caches_load : FnScope N_Caches_load ["self", "c", "word"] (defScope s_Caches_load) := ⟨rfl, rfl, rfl, by decide +kernel, rfl, by decide +kernel, by decide +kernel⟩
theorem d_Caches_load {P : Program} {w : World} {mg : Str → Option Value} {base : Heap} {e : En} (T : Txt e mg) (c_Caches_others : C8.Met P w e.K mg base 1 e.Caches "others" (sp_Caches_others e) []) (c_Caches_clean : C8.Met P w e.K mg base 1 e.Caches "clean" (sp_Caches_clean e) []) (c_Caches_fetched : C8.Met P w e.K mg base 1 e.Caches "fetched" (sp_Caches_fetched e) []) (c_Caches_move : C8.Met P w e.K mg base 1 e.Caches "move" (sp_Caches_move e) []) {f : Addr} {cdv : Value} {A : Around} {outer : List Env} {s : Shared} {H : Hp} {E : XK} (hr : Room 1 (A.deeper (envOfC "Caches.load" (defScope s_Caches_load) s.heap.objs.size f cdv))) :
    PSs (cxOf CX0 P w e.K mg base N_Caches_load "Caches.load" (defScope s_Caches_load) f cdv A outer s H E).nox (defBody s_Caches_load) (t_Caches_load e) := by
    exact (pss_cons (ps_set (i := 3) sc_Caches_load.nd rfl (Or.inl rfl) (pe_fld (pv 0) rfl))
    (pss_cons (ps_if (pt_cmpR op_isN1 (pv 3) pe_non (nomark _))
    (pss_one (ps_ret (pe_ix ix_list (pe_fld (pv 0) rfl) (pv 2) (fun _ _ => rfl))))
    pss_nil)
    (pss_cons (ps_if (pt_cmpR op_gt (pe_ix ix_list (pe_ix ix_list (pe_fld (pv 0) rfl) (pv 1) (fun _ _ => rfl)) (pv 2) (fun _ _ => rfl)) pe_int (nomark _))
    (pss_one (ps_ret (pe_ix ix_list (pe_ix ix_list (pe_fld (pv 0) rfl) (pv 1) (fun _ _ => rfl)) (pv 2) (fun _ _ => rfl))))
    pss_nil)
    (pss_cons (ps_set (i := 4) sc_Caches_load.nd rfl (Or.inl rfl) (C8.pe_mt c_Caches_others hr (by decide) (pv 0) (pa_cons (pv 1) (pa_cons (pv 2) pa_nil))))
    (pss_cons (ps_expr (C8.pe_mt c_Caches_clean hr (by decide) (pv 0) (pa_cons (pv 4) (pa_cons (pv 2) (pa_cons (pe_fld (pv 3) rfl) pa_nil)))))
    (pss_cons (ps_set (i := 5) sc_Caches_load.nd rfl (Or.inl rfl) (C8.pe_mt c_Caches_fetched hr (by decide) (pv 0) (pa_cons (pv 4) (pa_cons (pv 2) (pa_cons (pe_fld (pv 3) rfl) pa_nil)))))
    (pss_cons (ps_for PassesOwn.never rfl (pi_list (pv 4)) (pg_name (i := 6) sc_Caches_load.nd rfl (Or.inl rfl))
    (pss_one (ps_expr (C8.pe_mt c_Caches_move hr (by decide) (pv 0) (pa_cons (pv 6) (pa_cons (pv 2) (pa_cons (pe_ix ix_list (pe_fld (pv 3) rfl) (pe_ix ix_list (pe_ix ix_list (pe_fld (pv 0) rfl) (pv 6) (fun _ _ => rfl)) (pv 2) (fun _ _ => rfl)) (fun _ _ => rfl)) pa_nil)))))))
    (pss_cons (ps_asg (pe_ifExp (pt_cmpR op_gt (pe_callB call_len_seq rfl T.f_len (by decide +kernel) (pa_cons (pv 4) pa_nil)) pe_int (nomark _)) (pe_fld (pv 3) rfl) (pe_fld (pv 3) rfl)) (pg_sub (pe_ix ix_list (pe_fld (pv 0) rfl) (pv 1) (fun _ _ => rfl)) (pv 2) set_list))
    (pss_cons (ps_asg (pv 5) (pg_sub (pe_ix ix_list (pe_fld (pv 0) rfl) (pv 1) (fun _ _ => rfl)) (pv 2) set_list))
    (pss_one (ps_ret (pv 5))))))))))))
theorem k_Caches_load {P : Program} {w : World} {mg : Str → Option Value} {base : Heap} {e : En} {f : Addr} {fd : FuncData} (T : Txt e mg) (F : FunD e.K "load" "Caches.load" (defArgs s_Caches_load) (defBody s_Caches_load) (defScope s_Caches_load) [] [] f fd) (cl : Cls e.K e.Caches) (me : Meth e.K e.Caches "load" f) (c_Caches_others : C8.Met P w e.K mg base 1 e.Caches "others" (sp_Caches_others e) []) (c_Caches_clean : C8.Met P w e.K mg base 1 e.Caches "clean" (sp_Caches_clean e) []) (c_Caches_fetched : C8.Met P w e.K mg base 1 e.Caches "fetched" (sp_Caches_fetched e) []) (c_Caches_move : C8.Met P w e.K mg base 1 e.Caches "move" (sp_Caches_move e) []) (hl : ∀ vs H Q E, (sp_Caches_load e) vs H Q E → vs.length = ["self", "c", "word"].length) (hp : ∀ vs H Q E, (sp_Caches_load e) vs H Q E → (t_Caches_load e) { nx := fun _ H' => Q .non H', rt := Q } (start N_Caches_load vs) H) : C8.Met P w e.K mg base 2 e.Caches "load" (sp_Caches_load e) [] :=
  ⟨f, fd, ["self", "c", "word"], [], cl, me, (F.ok sc_Caches_load hl (fun cdv A outer s H vs Q E hr h => ⟨t_Caches_load e, PSs.nox (d_Caches_load T c_Caches_others c_Caches_clean c_Caches_fetched c_Caches_move hr), hp vs H Q E h⟩)), (F.bindsN fun _ _ _ _ _ _ us hl => match us, hl with | [_, _, _], _ => rfl), .nil⟩
def s_Caches_steal : Stmt := inClass (top 4) 6
theorem sc_Caches_steal : FnScope N_Caches_steal ["self", "c", "word"] (defScope s_Caches_steal) := ⟨rfl, rfl, rfl, by decide +kernel, rfl, by decide +kernel, by decide +kernel⟩
theorem d_Caches_steal {P : Program} {w : World} {mg : Str → Option Value} {base : Heap} {e : En} (T : Txt e mg) (c_Caches_others : C8.Met P w e.K mg base 1 e.Caches "others" (sp_Caches_others e) []) (c_Caches_clean : C8.Met P w e.K mg base 1 e.Caches "clean" (sp_Caches_clean e) []) (c_Caches_fetched : C8.Met P w e.K mg base 1 e.Caches "fetched" (sp_Caches_fetched e) []) (c_Caches_move : C8.Met P w e.K mg base 1 e.Caches "move" (sp_Caches_move e) []) {f : Addr} {cdv : Value} {A : Around} {outer : List Env} {s : Shared} {H : Hp} {E : XK} (hr : Room 1 (A.deeper (envOfC "Caches.steal" (defScope s_Caches_steal) s.heap.objs.size f cdv))) :
    PSs (cxOf CX0 P w e.K mg base N_Caches_steal "Caches.steal" (defScope s_Caches_steal) f cdv A outer s H E).nox (defBody s_Caches_steal) (t_Caches_steal e) := by
    exact (pss_cons (ps_set (i := 3) sc_Caches_steal.nd rfl (Or.inl rfl) (pe_fld (pv 0) rfl))
    (pss_cons (ps_set (i := 4) sc_Caches_steal.nd rfl (Or.inl rfl) (C8.pe_mt c_Caches_others hr (by decide) (pv 0) (pa_cons (pv 1) (pa_cons (pv 2) pa_nil))))
    (pss_cons (ps_expr (C8.pe_mt c_Caches_clean hr (by decide) (pv 0) (pa_cons (pv 4) (pa_cons (pv 2) (pa_cons (pe_fld (pv 3) rfl) pa_nil)))))
    (pss_cons (ps_if (pt_cmpR op_eq (pe_ix ix_list (pe_ix ix_list (pe_fld (pv 0) rfl) (pv 1) (fun _ _ => rfl)) (pv 2) (fun _ _ => rfl)) pe_int (nomark _))
    (pss_one (ps_asg (C8.pe_mt c_Caches_fetched hr (by decide) (pv 0) (pa_cons (pv 4) (pa_cons (pv 2) (pa_cons (pe_fld (pv 3) rfl) pa_nil)))) (pg_sub (pe_ix ix_list (pe_fld (pv 0) rfl) (pv 1) (fun _ _ => rfl)) (pv 2) set_list)))
    pss_nil)
    (pss_cons (ps_for PassesOwn.never rfl (pi_list (pv 4)) (pg_name (i := 5) sc_Caches_steal.nd rfl (Or.inl rfl))
    (pss_one (ps_expr (C8.pe_mt c_Caches_move hr (by decide) (pv 0) (pa_cons (pv 5) (pa_cons (pv 2) (pa_cons (pe_ix ix_list (pe_fld (pv 3) rfl) (pe_ix ix_list (pe_ix ix_list (pe_fld (pv 0) rfl) (pv 5) (fun _ _ => rfl)) (pv 2) (fun _ _ => rfl)) (fun _ _ => rfl)) pa_nil)))))))
    (pss_one (ps_asg (pe_fld (pv 3) rfl) (pg_sub (pe_ix ix_list (pe_fld (pv 0) rfl) (pv 1) (fun _ _ => rfl)) (pv 2) set_list))))))))
theorem k_Caches_steal {P : Program} {w : World} {mg : Str → Option Value} {base : Heap} {e : En} {f : Addr} {fd : FuncData} (T : Txt e mg) (F : FunD e.K "steal" "Caches.steal" (defArgs s_Caches_steal) (defBody s_Caches_steal) (defScope s_Caches_steal) [] [] f fd) (cl : Cls e.K e.Caches) (me : Meth e.K e.Caches "steal" f) (c_Caches_others : C8.Met P w e.K mg base 1 e.Caches "others" (sp_Caches_others e) []) (c_Caches_clean : C8.Met P w e.K mg base 1 e.Caches "clean" (sp_Caches_clean e) []) (c_Caches_fetched : C8.Met P w e.K mg base 1 e.Caches "fetched" (sp_Caches_fetched e) []) (c_Caches_move : C8.Met P w e.K mg base 1 e.Caches "move" (sp_Caches_move e) []) (hl : ∀ vs H Q E, (sp_Caches_steal e) vs H Q E → vs.length = ["self", "c", "word"].length) (hp : ∀ vs H Q E, (sp_Caches_steal e) vs H Q E → (t_Caches_steal e) { nx := fun _ H' => Q .non H', rt := Q } (start N_Caches_steal vs) H) : C8.Met P w e.K mg base 2 e.Caches "steal" (sp_Caches_steal e) [] :=
  ⟨f, fd, ["self", "c", "word"], [], cl, me, (F.ok sc_Caches_steal hl (fun cdv A outer s H vs Q E hr h => ⟨t_Caches_steal e, PSs.nox (d_Caches_steal T c_Caches_others c_Caches_clean c_Caches_fetched c_Caches_move hr), hp vs H Q E h⟩)), (F.bindsN fun _ _ _ _ _ _ us hl => match us, hl with | [_, _, _], _ => rfl), .nil⟩
def s_Caches_store : Stmt := inClass (top 4) 7
theorem sc_Caches_store : FnScope N_Caches_store ["self", "c", "word", "cover", "laid"] (defScope s_Caches_store) := ⟨rfl, rfl, rfl, by decide +kernel, rfl, by decide +kernel, by decide +kernel⟩
theorem d_Caches_store {P : Program} {w : World} {mg : Str → Option Value} {base : Heap} {e : En} (T : Txt e mg) (c_merge : C8.Cal P w e.K mg base 1 "merge" (sp_merge e) []) (c_Caches_steal : C8.Met P w e.K mg base 2 e.Caches "steal" (sp_Caches_steal e) []) {f : Addr} {cdv : Value} {A : Around} {outer : List Env} {s : Shared} {H : Hp} {E : XK} (hr : Room 2 (A.deeper (envOfC "Caches.store" (defScope s_Caches_store) s.heap.objs.size f cdv))) :
    PSs (cxOf CX0 P w e.K mg base N_Caches_store "Caches.store" (defScope s_Caches_store) f cdv A outer s H E).nox (defBody s_Caches_store) (t_Caches_store e) := by
    exact (pss_cons (ps_set (i := 5) sc_Caches_store.nd rfl (Or.inl rfl) (pe_fld (pv 0) rfl))
    (pss_cons (ps_if (pt_cmpR op_isN1 (pv 5) pe_non (nomark _))
    (pss_cons (ps_set (i := 6) sc_Caches_store.nd rfl (Or.inl rfl) (pe_ix ix_list (pe_fld (pv 0) rfl) (pv 2) (fun _ _ => rfl)))
    (pss_cons (ps_asg (C8.pe_c c_merge hr (by first | decide | omega) rfl (pa_cons (pv 6) (pa_cons (pv 4) (pa_cons (pv 3) pa_nil)))) (pg_sub (pe_fld (pv 0) rfl) (pv 2) set_list))
    (pss_one (ps_ret (pv 6)))))
    pss_nil)
    (pss_cons (ps_set (i := 7) sc_Caches_store.nd rfl (Or.inl rfl) (pe_ix ix_list (pe_ix ix_list (pe_fld (pv 0) rfl) (pv 1) (fun _ _ => rfl)) (pv 2) (fun _ _ => rfl)))
    (pss_cons (ps_if (pt_cmpR op_gt (pe_ix ix_list (pe_fld (pv 5) rfl) (pv 7) (fun _ _ => rfl)) pe_int (nomark _))
    (pss_one (ps_asg (pe_ix ix_list (pe_fld (pv 5) rfl) (pv 7) (fun _ _ => rfl)) (pg_sub (pe_ix ix_list (pe_fld (pv 0) rfl) (pv 1) (fun _ _ => rfl)) (pv 2) set_list)))
    (pss_one (ps_expr (C8.pe_mt c_Caches_steal hr (by decide) (pv 0) (pa_cons (pv 1) (pa_cons (pv 2) pa_nil))))))
    (pss_cons (ps_set (i := 6) sc_Caches_store.nd rfl (Or.inl rfl) (pe_ix ix_list (pe_ix ix_list (pe_fld (pv 0) rfl) (pv 1) (fun _ _ => rfl)) (pv 2) (fun _ _ => rfl)))
    (pss_cons (ps_asg (C8.pe_c c_merge hr (by first | decide | omega) rfl (pa_cons (pv 6) (pa_cons (pv 4) (pa_cons (pv 3) pa_nil)))) (pg_sub (pe_ix ix_list (pe_fld (pv 0) rfl) (pv 1) (fun _ _ => rfl)) (pv 2) set_list))
    (pss_cons (ps_if (pt_val (pe_fld (pv 5) rfl))
    (pss_one (ps_asg (pe_ix ix_list (pe_ix ix_list (pe_fld (pv 0) rfl) (pv 1) (fun _ _ => rfl)) (pv 2) (fun _ _ => rfl)) (pg_sub (pe_fld (pv 0) rfl) (pv 2) set_list)))
    pss_nil)
    (pss_one (ps_ret (pv 6))))))))))
theorem k_Caches_store {P : Program} {w : World} {mg : Str → Option Value} {base : Heap} {e : En} {f : Addr} {fd : FuncData} (T : Txt e mg) (F : FunD e.K "store" "Caches.store" (defArgs s_Caches_store) (defBody s_Caches_store) (defScope s_Caches_store) [] [] f fd) (cl : Cls e.K e.Caches) (me : Meth e.K e.Caches "store" f) (c_merge : C8.Cal P w e.K mg base 1 "merge" (sp_merge e) []) (c_Caches_steal : C8.Met P w e.K mg base 2 e.Caches "steal" (sp_Caches_steal e) []) (hl : ∀ vs H Q E, (sp_Caches_store e) vs H Q E → vs.length = ["self", "c", "word", "cover", "laid"].length) (hp : ∀ vs H Q E, (sp_Caches_store e) vs H Q E → (t_Caches_store e) { nx := fun _ H' => Q .non H', rt := Q } (start N_Caches_store vs) H) : C8.Met P w e.K mg base 3 e.Caches "store" (sp_Caches_store e) [] :=
  ⟨f, fd, ["self", "c", "word", "cover", "laid"], [], cl, me, (F.ok sc_Caches_store hl (fun cdv A outer s H vs Q E hr h => ⟨t_Caches_store e, PSs.nox (d_Caches_store T c_merge c_Caches_steal hr), hp vs H Q E h⟩)), (F.bindsN fun _ _ _ _ _ _ us hl => match us, hl with | [_, _, _, _, _], _ => rfl), .nil⟩
def s_Caches_leave : Stmt := inClass (top 4) 8
theorem sc_Caches_leave : FnScope N_Caches_leave ["self", "c", "word"] (defScope s_Caches_leave) := ⟨rfl, rfl, rfl, by decide +kernel, rfl, by decide +kernel, by decide +kernel⟩
theorem d_Caches_leave {P : Program} {w : World} {mg : Str → Option Value} {base : Heap} {e : En} (T : Txt e mg) (c_Caches_move : C8.Met P w e.K mg base 1 e.Caches "move" (sp_Caches_move e) []) {f : Addr} {cdv : Value} {A : Around} {outer : List Env} {s : Shared} {H : Hp} {E : XK} (hr : Room 1 (A.deeper (envOfC "Caches.leave" (defScope s_Caches_leave) s.heap.objs.size f cdv))) :
    PSs (cxOf CX0 P w e.K mg base N_Caches_leave "Caches.leave" (defScope s_Caches_leave) f cdv A outer s H E).nox (defBody s_Caches_leave) (t_Caches_leave e) := by
    exact (pss_cons (ps_set (i := 3) sc_Caches_leave.nd rfl (Or.inl rfl) (pe_ix ix_list (pe_ix ix_list (pe_fld (pv 0) rfl) (pv 1) (fun _ _ => rfl)) (pv 2) (fun _ _ => rfl)))
    (pss_one (ps_if (pt_cmpR op_gt (pv 3) pe_int (nomark _))
    (pss_cons (ps_if (pt_val (pe_ix ix_list (pe_fld (pe_fld (pv 0) rfl) rfl) (pv 3) (fun _ _ => rfl)))
    (pss_one (ps_asg (pe_ix ix_list (pe_ix ix_list (pe_fld (pv 0) rfl) (pv 1) (fun _ _ => rfl)) (pv 2) (fun _ _ => rfl)) (pg_sub (pe_fld (pv 0) rfl) (pv 2) set_list)))
    pss_nil)
    (pss_one (ps_expr (C8.pe_mt c_Caches_move hr (by decide) (pv 0) (pa_cons (pv 1) (pa_cons (pv 2) (pa_cons pe_int pa_nil)))))))
    pss_nil)))
theorem k_Caches_leave {P : Program} {w : World} {mg : Str → Option Value} {base : Heap} {e : En} {f : Addr} {fd : FuncData} (T : Txt e mg) (F : FunD e.K "leave" "Caches.leave" (defArgs s_Caches_leave) (defBody s_Caches_leave) (defScope s_Caches_leave) [] [] f fd) (cl : Cls e.K e.Caches) (me : Meth e.K e.Caches "leave" f) (c_Caches_move : C8.Met P w e.K mg base 1 e.Caches "move" (sp_Caches_move e) []) (hl : ∀ vs H Q E, (sp_Caches_leave e) vs H Q E → vs.length = ["self", "c", "word"].length) (hp : ∀ vs H Q E, (sp_Caches_leave e) vs H Q E → (t_Caches_leave e) { nx := fun _ H' => Q .non H', rt := Q } (start N_Caches_leave vs) H) : C8.Met P w e.K mg base 2 e.Caches "leave" (sp_Caches_leave e) [] :=
  ⟨f, fd, ["self", "c", "word"], [], cl, me, (F.ok sc_Caches_leave hl (fun cdv A outer s H vs Q E hr h => ⟨t_Caches_leave e, PSs.nox (d_Caches_leave T c_Caches_move hr), hp vs H Q E h⟩)), (F.bindsN fun _ _ _ _ _ _ us hl => match us, hl with | [_, _, _], _ => rfl), .nil⟩
def s_Caches_state_of : Stmt := inClass (top 4) 9
theorem sc_Caches_state_of : FnScope N_Caches_state_of ["self", "c", "word"] (defScope s_Caches_state_of) := ⟨rfl, rfl, rfl, by decide +kernel, rfl, by decide +kernel, by decide +kernel⟩
theorem d_Caches_state_of {P : Program} {w : World} {mg : Str → Option Value} {base : Heap} {e : En} (T : Txt e mg) {f : Addr} {cdv : Value} {A : Around} {outer : List Env} {s : Shared} {H : Hp} {E : XK} (hr : Room 0 (A.deeper (envOfC "Caches.state_of" (defScope s_Caches_state_of) s.heap.objs.size f cdv))) :
    PSs (cxOf CX0 P w e.K mg base N_Caches_state_of "Caches.state_of" (defScope s_Caches_state_of) f cdv A outer s H E).nox (defBody s_Caches_state_of) (t_Caches_state_of e) := by
    exact (pss_one (ps_ret (pe_ix ix_list (pe_ix ix_list (pe_fld (pv 0) rfl) (pv 1) (fun _ _ => rfl)) (pv 2) (fun _ _ => rfl))))
theorem k_Caches_state_of {P : Program} {w : World} {mg : Str → Option Value} {base : Heap} {e : En} {f : Addr} {fd : FuncData} (T : Txt e mg) (F : FunD e.K "state_of" "Caches.state_of" (defArgs s_Caches_state_of) (defBody s_Caches_state_of) (defScope s_Caches_state_of) [] [] f fd) (cl : Cls e.K e.Caches) (me : Meth e.K e.Caches "state_of" f) (hl : ∀ vs H Q E, (sp_Caches_state_of e) vs H Q E → vs.length = ["self", "c", "word"].length) (hp : ∀ vs H Q E, (sp_Caches_state_of e) vs H Q E → (t_Caches_state_of e) { nx := fun _ H' => Q .non H', rt := Q } (start N_Caches_state_of vs) H) : C8.Met P w e.K mg base 1 e.Caches "state_of" (sp_Caches_state_of e) [] :=
  ⟨f, fd, ["self", "c", "word"], [], cl, me, (F.ok sc_Caches_state_of hl (fun cdv A outer s H vs Q E hr h => ⟨t_Caches_state_of e, PSs.nox (d_Caches_state_of T hr), hp vs H Q E h⟩)), (F.bindsN fun _ _ _ _ _ _ us hl => match us, hl with | [_, _, _], _ => rfl), .nil⟩
def s_Caches_copy_of : Stmt := inClass (top 4) 10
theorem sc_Caches_copy_of : FnScope N_Caches_copy_of ["self", "c", "word"] (defScope s_Caches_copy_of) := ⟨rfl, rfl, rfl, by decide +kernel, rfl, by decide +kernel, by decide +kernel⟩
theorem d_Caches_copy_of {P : Program} {w : World} {mg : Str → Option Value} {base : Heap} {e : En} (T : Txt e mg) {f : Addr} {cdv : Value} {A : Around} {outer : List Env} {s : Shared} {H : Hp} {E : XK} (hr : Room 0 (A.deeper (envOfC "Caches.copy_of" (defScope s_Caches_copy_of) s.heap.objs.size f cdv))) :
    PSs (cxOf CX0 P w e.K mg base N_Caches_copy_of "Caches.copy_of" (defScope s_Caches_copy_of) f cdv A outer s H E).nox (defBody s_Caches_copy_of) (t_Caches_copy_of e) := by
    exact (pss_one (ps_ret (pe_ix ix_list (pe_ix ix_list (pe_fld (pv 0) rfl) (pv 1) (fun _ _ => rfl)) (pv 2) (fun _ _ => rfl))))
theorem k_Caches_copy_of {P : Program} {w : World} {mg : Str → Option Value} {base : Heap} {e : En} {f : Addr} {fd : FuncData} (T : Txt e mg) (F : FunD e.K "copy_of" "Caches.copy_of" (defArgs s_Caches_copy_of) (defBody s_Caches_copy_of) (defScope s_Caches_copy_of) [] [] f fd) (cl : Cls e.K e.Caches) (me : Meth e.K e.Caches "copy_of" f) (hl : ∀ vs H Q E, (sp_Caches_copy_of e) vs H Q E → vs.length = ["self", "c", "word"].length) (hp : ∀ vs H Q E, (sp_Caches_copy_of e) vs H Q E → (t_Caches_copy_of e) { nx := fun _ H' => Q .non H', rt := Q } (start N_Caches_copy_of vs) H) : C8.Met P w e.K mg base 1 e.Caches "copy_of" (sp_Caches_copy_of e) [] :=
  ⟨f, fd, ["self", "c", "word"], [], cl, me, (F.ok sc_Caches_copy_of hl (fun cdv A outer s H vs Q E hr h => ⟨t_Caches_copy_of e, PSs.nox (d_Caches_copy_of T hr), hp vs H Q E h⟩)), (F.bindsN fun _ _ _ _ _ _ us hl => match us, hl with | [_, _, _], _ => rfl), .nil⟩
def s_Caches_told : Stmt := inClass (top 4) 11
theorem sc_Caches_told : FnScope N_Caches_told ["self"] (defScope s_Caches_told) := ⟨rfl, rfl, rfl, by decide +kernel, rfl, by decide +kernel, by decide +kernel⟩
theorem d_Caches_told {P : Program} {w : World} {mg : Str → Option Value} {base : Heap} {e : En} (T : Txt e mg) {f : Addr} {cdv : Value} {A : Around} {outer : List Env} {s : Shared} {H : Hp} {E : XK} (hr : Room 0 (A.deeper (envOfC "Caches.told" (defScope s_Caches_told) s.heap.objs.size f cdv))) :
    PSs (cxOf CX0 P w e.K mg base N_Caches_told "Caches.told" (defScope s_Caches_told) f cdv A outer s H E).nox (defBody s_Caches_told) (t_Caches_told e) := by
    exact (pss_cons (ps_set (i := 1) sc_Caches_told.nd rfl (Or.inl rfl) (pe_callTy cr_range1 rfl T.f_range (by decide +kernel) (pa_cons (pe_callB call_len_seq rfl T.f_len (by decide +kernel) (pa_cons (pe_fld (pv 0) rfl) pa_nil)) pa_nil)))
    (pss_cons (ps_set (i := 2) sc_Caches_told.nd rfl (Or.inl rfl) (pe_lst pa_nil))
    (pss_cons (ps_for PassesOwn.never rfl (pi_range1 rfl T.f_range (pa_cons (pe_callB call_len_seq rfl T.f_len (by decide +kernel) (pa_cons (pe_fld (pv 0) rfl) pa_nil)) pa_nil)) (pg_name (i := 3) sc_Caches_told.nd rfl (Or.inr rfl))
    (pss_one (ps_expr (pe_bm PySem.F.plainAttrs_list PySem.F.slot_list_append PySem.F.type_list_append mt_append (pv 2) (pa_cons (pe_callTy call_tuple_of rfl T.f_tuple (by decide +kernel) (pa_cons (pe_lc (own := [("word", 4)]) (g := (gName 4)) (tt := tYes) rfl sc_Caches_told.nd (pi_rngV (pv 1)) (blkOk_by (own := [("word", 4)]) (N := N_Caches_told) (sc := defScope s_Caches_told) (by decide +kernel)) (fun _ _ _ _ _ => (pg_name (i := 4) sc_Caches_told.nd rfl (Or.inl rfl))) (fun _ _ _ _ _ => pts_nil) (fun _ _ _ _ _ => (pe_tup (pa_cons (pe_ix ix_list (pe_ix ix_list (pe_fld (pv 0) rfl) (pv 3) (fun _ _ => rfl)) (pv 4) (fun _ _ => rfl)) (pa_cons (pe_ix ix_list (pe_ix ix_list (pe_fld (pv 0) rfl) (pv 3) (fun _ _ => rfl)) (pv 4) (fun _ _ => rfl)) pa_nil))))) pa_nil)) pa_nil)))))
    (pss_one (ps_ret (pe_tup (pa_cons (pe_callTy call_tuple_of rfl T.f_tuple (by decide +kernel) (pa_cons (pe_fld (pv 0) rfl) pa_nil)) (pa_cons (pe_callTy call_tuple_of rfl T.f_tuple (by decide +kernel) (pa_cons (pv 2) pa_nil)) pa_nil))))))))
theorem k_Caches_told {P : Program} {w : World} {mg : Str → Option Value} {base : Heap} {e : En} {f : Addr} {fd : FuncData} (T : Txt e mg) (F : FunD e.K "told" "Caches.told" (defArgs s_Caches_told) (defBody s_Caches_told) (defScope s_Caches_told) [] [] f fd) (cl : Cls e.K e.Caches) (me : Meth e.K e.Caches "told" f) (hl : ∀ vs H Q E, (sp_Caches_told e) vs H Q E → vs.length = ["self"].length) (hp : ∀ vs H Q E, (sp_Caches_told e) vs H Q E → (t_Caches_told e) { nx := fun _ H' => Q .non H', rt := Q } (start N_Caches_told vs) H) : C8.Met P w e.K mg base 1 e.Caches "told" (sp_Caches_told e) [] :=
  ⟨f, fd, ["self"], [], cl, me, (F.ok sc_Caches_told hl (fun cdv A outer s H vs Q E hr h => ⟨t_Caches_told e, PSs.nox (d_Caches_told T hr), hp vs H Q E h⟩)), (F.bindsN fun _ _ _ _ _ _ us hl => match us, hl with | [_], _ => rfl), .nil⟩
def s_Caches_emptied : Stmt := inClass (top 4) 12
theorem sc_Caches_emptied : FnScope N_Caches_emptied ["self"] (defScope s_Caches_emptied) := ⟨rfl, rfl, rfl, by decide +kernel, rfl, by decide +kernel, by decide +kernel⟩
theorem d_Caches_emptied {P : Program} {w : World} {mg : Str → Option Value} {base : Heap} {e : En} (T : Txt e mg) (c_Caches_copy : C8.Met P w e.K mg base 3 e.Caches "copy" (sp_Caches_copy e) []) (c_Caches_leave : C8.Met P w e.K mg base 2 e.Caches "leave" (sp_Caches_leave e) []) {f : Addr} {cdv : Value} {A : Around} {outer : List Env} {s : Shared} {H : Hp} {E : XK} (hr : Room 3 (A.deeper (envOfC "Caches.emptied" (defScope s_Caches_emptied) s.heap.objs.size f cdv))) :
    PSs (cxOf CX0 P w e.K mg base N_Caches_emptied "Caches.emptied" (defScope s_Caches_emptied) f cdv A outer s H E).nox (defBody s_Caches_emptied) (t_Caches_emptied e) := by
    exact (pss_cons (ps_set (i := 1) sc_Caches_emptied.nd rfl (Or.inl rfl) (C8.pe_mt0 c_Caches_copy hr (by decide) (pv 0)))
    (pss_cons (ps_for PassesOwn.never rfl (pi_range1 rfl T.f_range (pa_cons (pe_callB call_len_seq rfl T.f_len (by decide +kernel) (pa_cons (pe_fld (pv 0) rfl) pa_nil)) pa_nil)) (pg_name (i := 2) sc_Caches_emptied.nd rfl (Or.inl rfl))
    (pss_one (ps_for PassesOwn.never rfl (pi_range1 rfl T.f_range (pa_cons (pe_callB call_len_seq rfl T.f_len (by decide +kernel) (pa_cons (pe_fld (pv 0) rfl) pa_nil)) pa_nil)) (pg_name (i := 3) sc_Caches_emptied.nd rfl (Or.inl rfl))
    (pss_one (ps_expr (C8.pe_mt c_Caches_leave hr (by decide) (pv 1) (pa_cons (pv 2) (pa_cons (pv 3) pa_nil))))))))
    (pss_one (ps_ret (pe_callTy call_tuple_of rfl T.f_tuple (by decide +kernel) (pa_cons (pe_fld (pv 1) rfl) pa_nil))))))
theorem k_Caches_emptied {P : Program} {w : World} {mg : Str → Option Value} {base : Heap} {e : En} {f : Addr} {fd : FuncData} (T : Txt e mg) (F : FunD e.K "emptied" "Caches.emptied" (defArgs s_Caches_emptied) (defBody s_Caches_emptied) (defScope s_Caches_emptied) [] [] f fd) (cl : Cls e.K e.Caches) (me : Meth e.K e.Caches "emptied" f) (c_Caches_copy : C8.Met P w e.K mg base 3 e.Caches "copy" (sp_Caches_copy e) []) (c_Caches_leave : C8.Met P w e.K mg base 2 e.Caches "leave" (sp_Caches_leave e) []) (hl : ∀ vs H Q E, (sp_Caches_emptied e) vs H Q E → vs.length = ["self"].length) (hp : ∀ vs H Q E, (sp_Caches_emptied e) vs H Q E → (t_Caches_emptied e) { nx := fun _ H' => Q .non H', rt := Q } (start N_Caches_emptied vs) H) : C8.Met P w e.K mg base 4 e.Caches "emptied" (sp_Caches_emptied e) [] :=
  ⟨f, fd, ["self"], [], cl, me, (F.ok sc_Caches_emptied hl (fun cdv A outer s H vs Q E hr h => ⟨t_Caches_emptied e, PSs.nox (d_Caches_emptied T c_Caches_copy c_Caches_leave hr), hp vs H Q E h⟩)), (F.bindsN fun _ _ _ _ _ _ us hl => match us, hl with | [_], _ => rfl), .nil⟩
def s_Caches_copy : Stmt := inClass (top 4) 13
theorem sc_Caches_copy : FnScope N_Caches_copy ["self"] (defScope s_Caches_copy) := ⟨rfl, rfl, rfl, by decide +kernel, rfl, by decide +kernel, by decide +kernel⟩
theorem d_Caches_copy {P : Program} {w : World} {mg : Str → Option Value} {base : Heap} {e : En} (T : Txt e mg) (c_Caches___init__ : C8.Mak P w e.K mg base 1 "Caches" e.Caches (sp_Caches___init__ e) []) {f : Addr} {cdv : Value} {A : Around} {outer : List Env} {s : Shared} {H : Hp} {E : XK} (hr : Room 2 (A.deeper (envOfC "Caches.copy" (defScope s_Caches_copy) s.heap.objs.size f cdv))) :
    PSs (cxOf CX0 P w e.K mg base N_Caches_copy "Caches.copy" (defScope s_Caches_copy) f cdv A outer s H E).nox (defBody s_Caches_copy) (t_Caches_copy e) := by
    exact (pss_cons (ps_set (i := 1) sc_Caches_copy.nd rfl (Or.inl rfl) (C8.pe_mk c_Caches___init__ hr (by decide) rfl (pa_cons (pe_fld (pv 0) rfl) (pa_cons (pe_callB call_len_seq rfl T.f_len (by decide +kernel) (pa_cons (pe_fld (pv 0) rfl) pa_nil)) (pa_cons (pe_fld (pv 0) rfl) pa_nil)))))
    (pss_cons (ps_fld (pv 1) (pe_lc (own := [("states", 2)]) (g := (gName 2)) (tt := tYes) rfl sc_Caches_copy.nd (pi_list (pe_fld (pv 0) rfl)) (blkOk_by (own := [("states", 2)]) (N := N_Caches_copy) (sc := defScope s_Caches_copy) (by decide +kernel)) (fun _ _ _ _ _ => (pg_name (i := 2) sc_Caches_copy.nd rfl (Or.inl rfl))) (fun _ _ _ _ _ => pts_nil) (fun _ _ _ _ _ => (pe_callTy call_list_of rfl T.f_list (by decide +kernel) (pa_cons (pv 2) pa_nil)))) rfl)
    (pss_cons (ps_fld (pv 1) (pe_lc (own := [("copies", 3)]) (g := (gName 3)) (tt := tYes) rfl sc_Caches_copy.nd (pi_list (pe_fld (pv 0) rfl)) (blkOk_by (own := [("copies", 3)]) (N := N_Caches_copy) (sc := defScope s_Caches_copy) (by decide +kernel)) (fun _ _ _ _ _ => (pg_name (i := 3) sc_Caches_copy.nd rfl (Or.inl rfl))) (fun _ _ _ _ _ => pts_nil) (fun _ _ _ _ _ => (pe_callTy call_list_of rfl T.f_list (by decide +kernel) (pa_cons (pv 3) pa_nil)))) rfl)
    (pss_one (ps_ret (pv 1))))))
theorem k_Caches_copy {P : Program} {w : World} {mg : Str → Option Value} {base : Heap} {e : En} {f : Addr} {fd : FuncData} (T : Txt e mg) (F : FunD e.K "copy" "Caches.copy" (defArgs s_Caches_copy) (defBody s_Caches_copy) (defScope s_Caches_copy) [] [] f fd) (cl : Cls e.K e.Caches) (me : Meth e.K e.Caches "copy" f) (c_Caches___init__ : C8.Mak P w e.K mg base 1 "Caches" e.Caches (sp_Caches___init__ e) []) (hl : ∀ vs H Q E, (sp_Caches_copy e) vs H Q E → vs.length = ["self"].length) (hp : ∀ vs H Q E, (sp_Caches_copy e) vs H Q E → (t_Caches_copy e) { nx := fun _ H' => Q .non H', rt := Q } (start N_Caches_copy vs) H) : C8.Met P w e.K mg base 3 e.Caches "copy" (sp_Caches_copy e) [] :=
  ⟨f, fd, ["self"], [], cl, me, (F.ok sc_Caches_copy hl (fun cdv A outer s H vs Q E hr h => ⟨t_Caches_copy e, PSs.nox (d_Caches_copy T c_Caches___init__ hr), hp vs H Q E h⟩)), (F.bindsN fun _ _ _ _ _ _ us hl => match us, hl with | [_], _ => rfl), .nil⟩
def s_split_text : Stmt := top 14
theorem sc_split_text : FnScope N_split_text ["text"] (defScope s_split_text) := ⟨rfl, rfl, rfl, by decide +kernel, rfl, by decide +kernel, by decide +kernel⟩
theorem d_split_text {P : Program} {w : World} {mg : Str → Option Value} {base : Heap} {e : En} (T : Txt e mg) {f : Addr} {cdv : Value} {A : Around} {outer : List Env} {s : Shared} {H : Hp} {E : XK} (hr : Room 0 (A.deeper (envOfC "split_text" (defScope s_split_text) s.heap.objs.size f cdv))) :
    PSs (cxOf CX0 P w e.K mg base N_split_text "split_text" (defScope s_split_text) f cdv A outer s H E).nox (defBody s_split_text) (t_split_text e) := by
    exact (pss_cons (ps_set (i := 1) sc_split_text.nd rfl (Or.inl rfl) (pe_lst pa_nil))
    (pss_cons (ps_for PassesOwn.never rfl (pi_enumK rfl T.f_enumerate (pa_cons (pe_split (pv 0) pe_str) pa_nil) pe_int) (pg_tup rfl (pgs_cons (pg_name (i := 2) sc_split_text.nd rfl (Or.inl rfl)) (pgs_cons (pg_name (i := 3) sc_split_text.nd rfl (Or.inl rfl)) pgs_nil)))
    (pss_cons (ps_if (PW.pt (pw_or (pt_cmpR op_gt (pv 2) (C8.pe_gc rfl T.g_MOST_LINES) (nomark _)) (pw_or1 (pt_cmpR op_gt (pe_callB call_len_str rfl T.f_len (by decide +kernel) (pa_cons (pv 3) pa_nil)) (C8.pe_gc rfl T.g_MOST_SIGNS) (nomark _)))))
    (pss_one ps_never)
    pss_nil)
    (pss_cons (ps_setLc (i := 4) (own := [("word", 5)]) (g := (gName 5)) (tt := (tTest (tOp rNe (tVar 5) (tC (.str ""))))) rfl sc_split_text.nd rfl rfl (sw_true rfl rfl rfl (by decide +kernel)) (pi_list (pe_split (pv 3) pe_str)) (blkOk_by (own := [("word", 5)]) (N := N_split_text) (sc := defScope s_split_text) (by decide +kernel)) (fun _ _ _ _ _ => (pg_name (i := 5) sc_split_text.nd rfl (Or.inl rfl))) (fun _ _ _ _ _ => (pts_one (pt_cmpR op_ne (pv 5) pe_str (nomark _)))) (fun _ _ _ _ _ => (pv 5)))
    (pss_one (ps_if (pt_cmpR (op_neD hr.units) (pv 4) (pe_lst pa_nil) (nomark _))
    (pss_one (ps_expr (pe_bm PySem.F.plainAttrs_list PySem.F.slot_list_append PySem.F.type_list_append mt_append (pv 1) (pa_cons (pe_tup (pa_cons (pv 2) (pa_cons (pv 4) pa_nil))) pa_nil))))
    pss_nil)))))
    (pss_one (ps_ret (pv 1)))))
theorem k_split_text {P : Program} {w : World} {mg : Str → Option Value} {base : Heap} {e : En} {f : Addr} {fd : FuncData} (T : Txt e mg) (F : FunD e.K "split_text" "split_text" (defArgs s_split_text) (defBody s_split_text) (defScope s_split_text) [] [] f fd) (m : mg "split_text" = some (.ref f)) (hl : ∀ vs H Q E, (sp_split_text e) vs H Q E → vs.length = ["text"].length) (hp : ∀ vs H Q E, (sp_split_text e) vs H Q E → (t_split_text e) { nx := fun _ H' => Q .non H', rt := Q } (start N_split_text vs) H) : C8.Cal P w e.K mg base 1 "split_text" (sp_split_text e) [] :=
  ⟨f, fd, ["text"], [], (F.ok sc_split_text hl (fun cdv A outer s H vs Q E hr h => ⟨t_split_text e, PSs.nox (d_split_text T hr), hp vs H Q E h⟩)), m, F.kp, (F.bindsN fun _ _ _ _ _ _ us hl => match us, hl with | [_], _ => rfl), .nil⟩
def s_made_of : Stmt := top 15
theorem sc_made_of : FnScope N_made_of ["word", "signs"] (defScope s_made_of) := ⟨rfl, rfl, rfl, by decide +kernel, rfl, by decide +kernel, by decide +kernel⟩
theorem d_made_of {P : Program} {w : World} {mg : Str → Option Value} {base : Heap} {e : En} (T : Txt e mg) {f : Addr} {cdv : Value} {A : Around} {outer : List Env} {s : Shared} {H : Hp} {E : XK} (hr : Room 0 (A.deeper (envOfC "made_of" (defScope s_made_of) s.heap.objs.size f cdv))) :
    PSs (cxOf CX0 P w e.K mg base N_made_of "made_of" (defScope s_made_of) f cdv A outer s H E).nox (defBody s_made_of) (t_made_of e) := by
    exact (pss_cons (ps_for PassesOwn.never rfl (pi_str (pv 0)) (pg_name (i := 2) sc_made_of.nd rfl (Or.inl rfl))
    (pss_one (ps_if (pt_cmpR op_notInS (pv 2) (pv 1) (by rfl))
    (pss_one (ps_ret pe_bl))
    pss_nil)))
    (pss_one (ps_ret pe_bl)))
theorem k_made_of {P : Program} {w : World} {mg : Str → Option Value} {base : Heap} {e : En} {f : Addr} {fd : FuncData} (T : Txt e mg) (F : FunD e.K "made_of" "made_of" (defArgs s_made_of) (defBody s_made_of) (defScope s_made_of) [] [] f fd) (m : mg "made_of" = some (.ref f)) (hl : ∀ vs H Q E, (sp_made_of e) vs H Q E → vs.length = ["word", "signs"].length) (hp : ∀ vs H Q E, (sp_made_of e) vs H Q E → (t_made_of e) { nx := fun _ H' => Q .non H', rt := Q } (start N_made_of vs) H) : C8.Cal P w e.K mg base 1 "made_of" (sp_made_of e) [] :=
  ⟨f, fd, ["word", "signs"], [], (F.ok sc_made_of hl (fun cdv A outer s H vs Q E hr h => ⟨t_made_of e, PSs.nox (d_made_of T hr), hp vs H Q E h⟩)), m, F.kp, (F.bindsN fun _ _ _ _ _ _ us hl => match us, hl with | [_, _], _ => rfl), .nil⟩
def s_number_of : Stmt := top 16
theorem sc_number_of : FnScope N_number_of ["word"] (defScope s_number_of) := ⟨rfl, rfl, rfl, by decide +kernel, rfl, by decide +kernel, by decide +kernel⟩
theorem d_number_of {P : Program} {w : World} {mg : Str → Option Value} {base : Heap} {e : En} (T : Txt e mg) (c_made_of : C8.Cal P w e.K mg base 1 "made_of" (sp_made_of e) []) {f : Addr} {cdv : Value} {A : Around} {outer : List Env} {s : Shared} {H : Hp} {E : XK} (hr : Room 1 (A.deeper (envOfC "number_of" (defScope s_number_of) s.heap.objs.size f cdv))) :
    PSs (cxOf CX0 P w e.K mg base N_number_of "number_of" (defScope s_number_of) f cdv A outer s H E).nox (defBody s_number_of) (t_number_of e) := by
    exact (pss_cons (ps_if (PW.pt (pw_or (pt_cmpR op_eq (pv 0) pe_str (nomark _)) (pw_or1 (pt_not (pt_val (C8.pe_c c_made_of hr (by first | decide | omega) rfl (pa_cons (pv 0) (pa_cons (C8.pe_gc rfl T.g_DIGITS) pa_nil))))))))
    (pss_one (ps_ret pe_non))
    pss_nil)
    (pss_cons (ps_if (PW.pt (pw_and (pt_cmpR op_eq (pe_ix ix_str (pv 0) pe_int (fun _ _ => rfl)) pe_str (nomark _)) (pw_and1 (pt_cmpR op_gt (pe_callB call_len_str rfl T.f_len (by decide +kernel) (pa_cons (pv 0) pa_nil)) pe_int (nomark _)))))
    (pss_one (ps_ret pe_non))
    pss_nil)
    (pss_one (ps_ret (pe_callTy call_int_str rfl T.f_int (by decide +kernel) (pa_cons (pv 0) pa_nil))))))
theorem k_number_of {P : Program} {w : World} {mg : Str → Option Value} {base : Heap} {e : En} {f : Addr} {fd : FuncData} (T : Txt e mg) (F : FunD e.K "number_of" "number_of" (defArgs s_number_of) (defBody s_number_of) (defScope s_number_of) [] [] f fd) (m : mg "number_of" = some (.ref f)) (c_made_of : C8.Cal P w e.K mg base 1 "made_of" (sp_made_of e) []) (hl : ∀ vs H Q E, (sp_number_of e) vs H Q E → vs.length = ["word"].length) (hp : ∀ vs H Q E, (sp_number_of e) vs H Q E → (t_number_of e) { nx := fun _ H' => Q .non H', rt := Q } (start N_number_of vs) H) : C8.Cal P w e.K mg base 2 "number_of" (sp_number_of e) [] :=
  ⟨f, fd, ["word"], [], (F.ok sc_number_of hl (fun cdv A outer s H vs Q E hr h => ⟨t_number_of e, PSs.nox (d_number_of T c_made_of hr), hp vs H Q E h⟩)), m, F.kp, (F.bindsN fun _ _ _ _ _ _ us hl => match us, hl with | [_], _ => rfl), .nil⟩
def s_is_name : Stmt := top 17
theorem sc_is_name : FnScope N_is_name ["word"] (defScope s_is_name) := ⟨rfl, rfl, rfl, by decide +kernel, rfl, by decide +kernel, by decide +kernel⟩
theorem d_is_name {P : Program} {w : World} {mg : Str → Option Value} {base : Heap} {e : En} (T : Txt e mg) (c_made_of : C8.Cal P w e.K mg base 1 "made_of" (sp_made_of e) []) {f : Addr} {cdv : Value} {A : Around} {outer : List Env} {s : Shared} {H : Hp} {E : XK} (hr : Room 1 (A.deeper (envOfC "is_name" (defScope s_is_name) s.heap.objs.size f cdv))) :
    PSs (cxOf CX0 P w e.K mg base N_is_name "is_name" (defScope s_is_name) f cdv A outer s H E).nox (defBody s_is_name) (t_is_name e) := by
    exact (pss_cons (ps_if (PW.pt (pw_or (pt_cmpR op_eq (pv 0) pe_str (nomark _)) (pw_or (pt_cmpR op_gt (pe_callB call_len_str rfl T.f_len (by decide +kernel) (pa_cons (pv 0) pa_nil)) (C8.pe_gc rfl T.g_LONGEST_NAME) (nomark _)) (pw_or1 (pt_cmpR op_notInS (pe_ix ix_str (pv 0) pe_int (fun _ _ => rfl)) (C8.pe_gc rfl T.g_SMALL_LETTERS) (by rfl))))))
    (pss_one (ps_ret pe_bl))
    pss_nil)
    (pss_cons (ps_if (pt_not (pt_val (C8.pe_c c_made_of hr (by first | decide | omega) rfl (pa_cons (pv 0) (pa_cons (pe_op op_add_str (C8.pe_gc rfl T.g_SMALL_LETTERS) (C8.pe_gc rfl T.g_DIGITS)) pa_nil)))))
    (pss_one (ps_ret pe_bl))
    pss_nil)
    (pss_one (ps_ret (pe_or (pe_cmpR op_eq (pv 0) pe_str (nomark _)) (pe_or (pe_cmpR op_ne (pe_ix ix_str (pv 0) pe_int (fun _ _ => rfl)) pe_str (nomark _)) (pe_one (pe_not (C8.pe_c c_made_of hr (by first | decide | omega) rfl (pa_cons (pe_slice C8.sl_txt (pv 0) (po_some pe_int) po_none) (pa_cons (C8.pe_gc rfl T.g_DIGITS) pa_nil)))))))))))
theorem k_is_name {P : Program} {w : World} {mg : Str → Option Value} {base : Heap} {e : En} {f : Addr} {fd : FuncData} (T : Txt e mg) (F : FunD e.K "is_name" "is_name" (defArgs s_is_name) (defBody s_is_name) (defScope s_is_name) [] [] f fd) (m : mg "is_name" = some (.ref f)) (c_made_of : C8.Cal P w e.K mg base 1 "made_of" (sp_made_of e) []) (hl : ∀ vs H Q E, (sp_is_name e) vs H Q E → vs.length = ["word"].length) (hp : ∀ vs H Q E, (sp_is_name e) vs H Q E → (t_is_name e) { nx := fun _ H' => Q .non H', rt := Q } (start N_is_name vs) H) : C8.Cal P w e.K mg base 2 "is_name" (sp_is_name e) [] :=
  ⟨f, fd, ["word"], [], (F.ok sc_is_name hl (fun cdv A outer s H vs Q E hr h => ⟨t_is_name e, PSs.nox (d_is_name T c_made_of hr), hp vs H Q E h⟩)), m, F.kp, (F.bindsN fun _ _ _ _ _ _ us hl => match us, hl with | [_], _ => rfl), .nil⟩
def s_check_count : Stmt := top 18
theorem sc_check_count : FnScope N_check_count ["line", "words", "counts"] (defScope s_check_count) := ⟨rfl, rfl, rfl, by decide +kernel, rfl, by decide +kernel, by decide +kernel⟩
theorem d_check_count {P : Program} {w : World} {mg : Str → Option Value} {base : Heap} {e : En} (T : Txt e mg) {f : Addr} {cdv : Value} {A : Around} {outer : List Env} {s : Shared} {H : Hp} {E : XK} (hr : Room 0 (A.deeper (envOfC "check_count" (defScope s_check_count) s.heap.objs.size f cdv))) :
    PSs (cxOf CX0 P w e.K mg base N_check_count "check_count" (defScope s_check_count) f cdv A outer s H E).nox (defBody s_check_count) (t_check_count e) := by
    exact (pss_one (ps_if (pt_cmpR op_notIn_seq (pe_callB call_len_seq rfl T.f_len (by decide +kernel) (pa_cons (pv 1) pa_nil)) (pv 2) (by rfl))
    (pss_one ps_never)
    pss_nil))
theorem k_check_count {P : Program} {w : World} {mg : Str → Option Value} {base : Heap} {e : En} {f : Addr} {fd : FuncData} (T : Txt e mg) (F : FunD e.K "check_count" "check_count" (defArgs s_check_count) (defBody s_check_count) (defScope s_check_count) [] [] f fd) (m : mg "check_count" = some (.ref f)) (hl : ∀ vs H Q E, (sp_check_count e) vs H Q E → vs.length = ["line", "words", "counts"].length) (hp : ∀ vs H Q E, (sp_check_count e) vs H Q E → (t_check_count e) { nx := fun _ H' => Q .non H', rt := Q } (start N_check_count vs) H) : C8.Cal P w e.K mg base 1 "check_count" (sp_check_count e) [] :=
  ⟨f, fd, ["line", "words", "counts"], [], (F.ok sc_check_count hl (fun cdv A outer s H vs Q E hr h => ⟨t_check_count e, PSs.nox (d_check_count T hr), hp vs H Q E h⟩)), m, F.kp, (F.bindsN fun _ _ _ _ _ _ us hl => match us, hl with | [_, _, _], _ => rfl), .nil⟩
def s_due_line : Stmt := top 19
theorem sc_due_line : FnScope N_due_line ["lines", "index", "first", "counts"] (defScope s_due_line) := ⟨rfl, rfl, rfl, by decide +kernel, rfl, by decide +kernel, by decide +kernel⟩
theorem d_due_line {P : Program} {w : World} {mg : Str → Option Value} {base : Heap} {e : En} (T : Txt e mg) (c_check_count : C8.Cal P w e.K mg base 1 "check_count" (sp_check_count e) []) {f : Addr} {cdv : Value} {A : Around} {outer : List Env} {s : Shared} {H : Hp} {E : XK} (hr : Room 1 (A.deeper (envOfC "due_line" (defScope s_due_line) s.heap.objs.size f cdv))) :
    PSs (cxOf CX0 P w e.K mg base N_due_line "due_line" (defScope s_due_line) f cdv A outer s H E).nox (defBody s_due_line) (t_due_line e) := by
    exact (pss_cons (ps_if (pt_cmpR op_ge (pv 1) (pe_callB call_len_seq rfl T.f_len (by decide +kernel) (pa_cons (pv 0) pa_nil)) (nomark _))
    (pss_one ps_never)
    pss_nil)
    (pss_cons (ps_asg (pe_ix ix_list (pv 0) (pv 1) (fun _ _ => rfl)) (pg_tup rfl (pgs_cons (pg_name (i := 4) sc_due_line.nd rfl (Or.inl rfl)) (pgs_cons (pg_name (i := 5) sc_due_line.nd rfl (Or.inl rfl)) pgs_nil))))
    (pss_cons (ps_if (pt_cmpR op_ne (pe_ix ix_list (pv 5) pe_int (fun _ _ => rfl)) (pv 2) (nomark _))
    (pss_one ps_never)
    pss_nil)
    (pss_cons (ps_expr (C8.pe_c c_check_count hr (by first | decide | omega) rfl (pa_cons (pv 4) (pa_cons (pv 5) (pa_cons (pv 3) pa_nil)))))
    (pss_one (ps_ret (pe_tup (pa_cons (pv 4) (pa_cons (pv 5) pa_nil)))))))))
theorem k_due_line {P : Program} {w : World} {mg : Str → Option Value} {base : Heap} {e : En} {f : Addr} {fd : FuncData} (T : Txt e mg) (F : FunD e.K "due_line" "due_line" (defArgs s_due_line) (defBody s_due_line) (defScope s_due_line) [] [] f fd) (m : mg "due_line" = some (.ref f)) (c_check_count : C8.Cal P w e.K mg base 1 "check_count" (sp_check_count e) []) (hl : ∀ vs H Q E, (sp_due_line e) vs H Q E → vs.length = ["lines", "index", "first", "counts"].length) (hp : ∀ vs H Q E, (sp_due_line e) vs H Q E → (t_due_line e) { nx := fun _ H' => Q .non H', rt := Q } (start N_due_line vs) H) : C8.Cal P w e.K mg base 2 "due_line" (sp_due_line e) [] :=
  ⟨f, fd, ["lines", "index", "first", "counts"], [], (F.ok sc_due_line hl (fun cdv A outer s H vs Q E hr h => ⟨t_due_line e, PSs.nox (d_due_line T c_check_count hr), hp vs H Q E h⟩)), m, F.kp, (F.bindsN fun _ _ _ _ _ _ us hl => match us, hl with | [_, _, _, _], _ => rfl), .nil⟩
def s_any_number : Stmt := top 20
theorem sc_any_number : FnScope N_any_number ["line", "word"] (defScope s_any_number) := ⟨rfl, rfl, rfl, by decide +kernel, rfl, by decide +kernel, by decide +kernel⟩
theorem d_any_number {P : Program} {w : World} {mg : Str → Option Value} {base : Heap} {e : En} (T : Txt e mg) (c_number_of : C8.Cal P w e.K mg base 2 "number_of" (sp_number_of e) []) {f : Addr} {cdv : Value} {A : Around} {outer : List Env} {s : Shared} {H : Hp} {E : XK} (hr : Room 2 (A.deeper (envOfC "any_number" (defScope s_any_number) s.heap.objs.size f cdv))) :
    PSs (cxOf CX0 P w e.K mg base N_any_number "any_number" (defScope s_any_number) f cdv A outer s H E).nox (defBody s_any_number) (t_any_number e) := by
    exact (pss_cons (ps_set (i := 2) sc_any_number.nd rfl (Or.inl rfl) (C8.pe_c c_number_of hr (by first | decide | omega) rfl (pa_cons (pv 1) pa_nil)))
    (pss_cons (ps_if (pt_cmpR op_isN1 (pv 2) pe_non (nomark _))
    (pss_one ps_never)
    pss_nil)
    (pss_one (ps_ret (pv 2)))))
theorem k_any_number {P : Program} {w : World} {mg : Str → Option Value} {base : Heap} {e : En} {f : Addr} {fd : FuncData} (T : Txt e mg) (F : FunD e.K "any_number" "any_number" (defArgs s_any_number) (defBody s_any_number) (defScope s_any_number) [] [] f fd) (m : mg "any_number" = some (.ref f)) (c_number_of : C8.Cal P w e.K mg base 2 "number_of" (sp_number_of e) []) (hl : ∀ vs H Q E, (sp_any_number e) vs H Q E → vs.length = ["line", "word"].length) (hp : ∀ vs H Q E, (sp_any_number e) vs H Q E → (t_any_number e) { nx := fun _ H' => Q .non H', rt := Q } (start N_any_number vs) H) : C8.Cal P w e.K mg base 3 "any_number" (sp_any_number e) [] :=
  ⟨f, fd, ["line", "word"], [], (F.ok sc_any_number hl (fun cdv A outer s H vs Q E hr h => ⟨t_any_number e, PSs.nox (d_any_number T c_number_of hr), hp vs H Q E h⟩)), m, F.kp, (F.bindsN fun _ _ _ _ _ _ us hl => match us, hl with | [_, _], _ => rfl), .nil⟩
def s_read_number : Stmt := top 21
theorem sc_read_number : FnScope N_read_number ["line", "word", "least", "most"] (defScope s_read_number) := ⟨rfl, rfl, rfl, by decide +kernel, rfl, by decide +kernel, by decide +kernel⟩
theorem d_read_number {P : Program} {w : World} {mg : Str → Option Value} {base : Heap} {e : En} (T : Txt e mg) (c_any_number : C8.Cal P w e.K mg base 3 "any_number" (sp_any_number e) []) {f : Addr} {cdv : Value} {A : Around} {outer : List Env} {s : Shared} {H : Hp} {E : XK} (hr : Room 3 (A.deeper (envOfC "read_number" (defScope s_read_number) s.heap.objs.size f cdv))) :
    PSs (cxOf CX0 P w e.K mg base N_read_number "read_number" (defScope s_read_number) f cdv A outer s H E).nox (defBody s_read_number) (t_read_number e) := by
    exact (pss_cons (ps_set (i := 4) sc_read_number.nd rfl (Or.inl rfl) (C8.pe_c c_any_number hr (by first | decide | omega) rfl (pa_cons (pv 0) (pa_cons (pv 1) pa_nil))))
    (pss_cons (ps_if (pt_not (pt_chain op_le op_le (pv 2) (pv 4) (pv 3)))
    (pss_one ps_never)
    pss_nil)
    (pss_one (ps_ret (pv 4)))))
theorem k_read_number {P : Program} {w : World} {mg : Str → Option Value} {base : Heap} {e : En} {f : Addr} {fd : FuncData} (T : Txt e mg) (F : FunD e.K "read_number" "read_number" (defArgs s_read_number) (defBody s_read_number) (defScope s_read_number) [] [] f fd) (m : mg "read_number" = some (.ref f)) (c_any_number : C8.Cal P w e.K mg base 3 "any_number" (sp_any_number e) []) (hl : ∀ vs H Q E, (sp_read_number e) vs H Q E → vs.length = ["line", "word", "least", "most"].length) (hp : ∀ vs H Q E, (sp_read_number e) vs H Q E → (t_read_number e) { nx := fun _ H' => Q .non H', rt := Q } (start N_read_number vs) H) : C8.Cal P w e.K mg base 4 "read_number" (sp_read_number e) [] :=
  ⟨f, fd, ["line", "word", "least", "most"], [], (F.ok sc_read_number hl (fun cdv A outer s H vs Q E hr h => ⟨t_read_number e, PSs.nox (d_read_number T c_any_number hr), hp vs H Q E h⟩)), m, F.kp, (F.bindsN fun _ _ _ _ _ _ us hl => match us, hl with | [_, _, _, _], _ => rfl), .nil⟩
def s_read_name : Stmt := top 22
theorem sc_read_name : FnScope N_read_name ["line", "word"] (defScope s_read_name) := ⟨rfl, rfl, rfl, by decide +kernel, rfl, by decide +kernel, by decide +kernel⟩
theorem d_read_name {P : Program} {w : World} {mg : Str → Option Value} {base : Heap} {e : En} (T : Txt e mg) (c_is_name : C8.Cal P w e.K mg base 2 "is_name" (sp_is_name e) []) {f : Addr} {cdv : Value} {A : Around} {outer : List Env} {s : Shared} {H : Hp} {E : XK} (hr : Room 2 (A.deeper (envOfC "read_name" (defScope s_read_name) s.heap.objs.size f cdv))) :
    PSs (cxOf CX0 P w e.K mg base N_read_name "read_name" (defScope s_read_name) f cdv A outer s H E).nox (defBody s_read_name) (t_read_name e) := by
    exact (pss_cons (ps_if (pt_not (pt_val (C8.pe_c c_is_name hr (by first | decide | omega) rfl (pa_cons (pv 1) pa_nil))))
    (pss_one ps_never)
    pss_nil)
    (pss_one (ps_ret (pv 1))))
theorem k_read_name {P : Program} {w : World} {mg : Str → Option Value} {base : Heap} {e : En} {f : Addr} {fd : FuncData} (T : Txt e mg) (F : FunD e.K "read_name" "read_name" (defArgs s_read_name) (defBody s_read_name) (defScope s_read_name) [] [] f fd) (m : mg "read_name" = some (.ref f)) (c_is_name : C8.Cal P w e.K mg base 2 "is_name" (sp_is_name e) []) (hl : ∀ vs H Q E, (sp_read_name e) vs H Q E → vs.length = ["line", "word"].length) (hp : ∀ vs H Q E, (sp_read_name e) vs H Q E → (t_read_name e) { nx := fun _ H' => Q .non H', rt := Q } (start N_read_name vs) H) : C8.Cal P w e.K mg base 3 "read_name" (sp_read_name e) [] :=
  ⟨f, fd, ["line", "word"], [], (F.ok sc_read_name hl (fun cdv A outer s H vs Q E hr h => ⟨t_read_name e, PSs.nox (d_read_name T c_is_name hr), hp vs H Q E h⟩)), m, F.kp, (F.bindsN fun _ _ _ _ _ _ us hl => match us, hl with | [_, _], _ => rfl), .nil⟩
def s_read_choice : Stmt := top 23
theorem sc_read_choice : FnScope N_read_choice ["line", "word", "choices"] (defScope s_read_choice) := ⟨rfl, rfl, rfl, by decide +kernel, rfl, by decide +kernel, by decide +kernel⟩
theorem d_read_choice {P : Program} {w : World} {mg : Str → Option Value} {base : Heap} {e : En} (T : Txt e mg) {f : Addr} {cdv : Value} {A : Around} {outer : List Env} {s : Shared} {H : Hp} {E : XK} (hr : Room 0 (A.deeper (envOfC "read_choice" (defScope s_read_choice) s.heap.objs.size f cdv))) :
    PSs (cxOf CX0 P w e.K mg base N_read_choice "read_choice" (defScope s_read_choice) f cdv A outer s H E).nox (defBody s_read_choice) (t_read_choice e) := by
    exact (pss_cons (ps_if (pt_cmpR op_notIn_seq (pv 1) (pv 2) (by rfl))
    (pss_one ps_never)
    pss_nil)
    (pss_one (ps_ret (pv 1))))
theorem k_read_choice {P : Program} {w : World} {mg : Str → Option Value} {base : Heap} {e : En} {f : Addr} {fd : FuncData} (T : Txt e mg) (F : FunD e.K "read_choice" "read_choice" (defArgs s_read_choice) (defBody s_read_choice) (defScope s_read_choice) [] [] f fd) (m : mg "read_choice" = some (.ref f)) (hl : ∀ vs H Q E, (sp_read_choice e) vs H Q E → vs.length = ["line", "word", "choices"].length) (hp : ∀ vs H Q E, (sp_read_choice e) vs H Q E → (t_read_choice e) { nx := fun _ H' => Q .non H', rt := Q } (start N_read_choice vs) H) : C8.Cal P w e.K mg base 1 "read_choice" (sp_read_choice e) [] :=
  ⟨f, fd, ["line", "word", "choices"], [], (F.ok sc_read_choice hl (fun cdv A outer s H vs Q E hr h => ⟨t_read_choice e, PSs.nox (d_read_choice T hr), hp vs H Q E h⟩)), m, F.kp, (F.bindsN fun _ _ _ _ _ _ us hl => match us, hl with | [_, _, _], _ => rfl), .nil⟩
def s_Scheme___init__ : Stmt := inClass (top 29) 0
theorem sc_Scheme___init__ : FnScope N_Scheme___init__ ["self", "name", "numbers", "through", "rows"] (defScope s_Scheme___init__) := ⟨rfl, rfl, rfl, by decide +kernel, rfl, by decide +kernel, by decide +kernel⟩
theorem d_Scheme___init__ {P : Program} {w : World} {mg : Str → Option Value} {base : Heap} {e : En} (T : Txt e mg) {f : Addr} {cdv : Value} {A : Around} {outer : List Env} {s : Shared} {H : Hp} {E : XK} (hr : Room 0 (A.deeper (envOfC "Scheme.__init__" (defScope s_Scheme___init__) s.heap.objs.size f cdv))) :
    PSs (cxOf CX0 P w e.K mg base N_Scheme___init__ "Scheme.__init__" (defScope s_Scheme___init__) f cdv A outer s H E).nox (defBody s_Scheme___init__) (t_Scheme___init__ e) := by
    exact (pss_cons (ps_fld (pv 0) (pv 1) rfl)
    (pss_cons (ps_asg (pv 2) (pg_tup rfl (pgs_cons (pg_fld (pv 0)) (pgs_cons (pg_fld (pv 0)) (pgs_cons (pg_fld (pv 0)) (pgs_cons (pg_fld (pv 0)) pgs_nil))))))
    (pss_cons (ps_fld (pv 0) (pv 3) rfl)
    (pss_cons (ps_fld (pv 0) (pe_op op_cat (pe_lst (pa_cons pe_int pa_nil)) (pe_lc (own := [("row", 5)]) (g := (gName 5)) (tt := tYes) rfl sc_Scheme___init__.nd (pi_list (pv 4)) (blkOk_by (own := [("row", 5)]) (N := N_Scheme___init__) (sc := defScope s_Scheme___init__) (by decide +kernel)) (fun _ _ _ _ _ => (pg_name (i := 5) sc_Scheme___init__.nd rfl (Or.inl rfl))) (fun _ _ _ _ _ => pts_nil) (fun _ _ _ _ _ => (pe_ix ix_tup (pv 5) pe_int (fun _ _ => rfl))))) rfl)
    (pss_cons (ps_fld (pv 0) (pe_op op_cat (pe_lst (pa_cons pe_int pa_nil)) (pe_lc (own := [("row", 5)]) (g := (gName 5)) (tt := tYes) rfl sc_Scheme___init__.nd (pi_list (pv 4)) (blkOk_by (own := [("row", 5)]) (N := N_Scheme___init__) (sc := defScope s_Scheme___init__) (by decide +kernel)) (fun _ _ _ _ _ => (pg_name (i := 5) sc_Scheme___init__.nd rfl (Or.inl rfl))) (fun _ _ _ _ _ => pts_nil) (fun _ _ _ _ _ => (pe_ix ix_tup (pv 5) pe_int (fun _ _ => rfl))))) rfl)
    (pss_cons (ps_fld (pv 0) (pe_op op_cat (pe_lst (pa_cons pe_int pa_nil)) (pe_lc (own := [("row", 5)]) (g := (gName 5)) (tt := tYes) rfl sc_Scheme___init__.nd (pi_list (pv 4)) (blkOk_by (own := [("row", 5)]) (N := N_Scheme___init__) (sc := defScope s_Scheme___init__) (by decide +kernel)) (fun _ _ _ _ _ => (pg_name (i := 5) sc_Scheme___init__.nd rfl (Or.inl rfl))) (fun _ _ _ _ _ => pts_nil) (fun _ _ _ _ _ => (pe_ix ix_tup (pv 5) pe_int (fun _ _ => rfl))))) rfl)
    (pss_cons (ps_fld (pv 0) (pe_op op_cat (pe_lst (pa_cons pe_bl pa_nil)) (pe_lc (own := [("row", 5)]) (g := (gName 5)) (tt := tYes) rfl sc_Scheme___init__.nd (pi_list (pv 4)) (blkOk_by (own := [("row", 5)]) (N := N_Scheme___init__) (sc := defScope s_Scheme___init__) (by decide +kernel)) (fun _ _ _ _ _ => (pg_name (i := 5) sc_Scheme___init__.nd rfl (Or.inl rfl))) (fun _ _ _ _ _ => pts_nil) (fun _ _ _ _ _ => (pe_cmpR op_in_seq pe_str (pe_ix ix_tup (pv 5) pe_int (fun _ _ => rfl)) (by rfl))))) rfl)
    (pss_cons (ps_fld (pv 0) (pe_op op_cat (pe_lst (pa_cons pe_bl pa_nil)) (pe_lc (own := [("row", 5)]) (g := (gName 5)) (tt := tYes) rfl sc_Scheme___init__.nd (pi_list (pv 4)) (blkOk_by (own := [("row", 5)]) (N := N_Scheme___init__) (sc := defScope s_Scheme___init__) (by decide +kernel)) (fun _ _ _ _ _ => (pg_name (i := 5) sc_Scheme___init__.nd rfl (Or.inl rfl))) (fun _ _ _ _ _ => pts_nil) (fun _ _ _ _ _ => (pe_cmpR op_in_seq pe_str (pe_ix ix_tup (pv 5) pe_int (fun _ _ => rfl)) (by rfl))))) rfl)
    (pss_cons (ps_fld (pv 0) (pe_op op_cat (pe_lst (pa_cons pe_bl pa_nil)) (pe_lc (own := [("row", 5)]) (g := (gName 5)) (tt := tYes) rfl sc_Scheme___init__.nd (pi_list (pv 4)) (blkOk_by (own := [("row", 5)]) (N := N_Scheme___init__) (sc := defScope s_Scheme___init__) (by decide +kernel)) (fun _ _ _ _ _ => (pg_name (i := 5) sc_Scheme___init__.nd rfl (Or.inl rfl))) (fun _ _ _ _ _ => pts_nil) (fun _ _ _ _ _ => (pe_cmpR op_in_seq pe_str (pe_ix ix_tup (pv 5) pe_int (fun _ _ => rfl)) (by rfl))))) rfl)
    (pss_cons (ps_fld (pv 0) (pe_op op_cat (pe_lst (pa_cons pe_bl pa_nil)) (pe_lc (own := [("row", 5)]) (g := (gName 5)) (tt := tYes) rfl sc_Scheme___init__.nd (pi_list (pv 4)) (blkOk_by (own := [("row", 5)]) (N := N_Scheme___init__) (sc := defScope s_Scheme___init__) (by decide +kernel)) (fun _ _ _ _ _ => (pg_name (i := 5) sc_Scheme___init__.nd rfl (Or.inl rfl))) (fun _ _ _ _ _ => pts_nil) (fun _ _ _ _ _ => (pe_cmpR op_in_seq pe_str (pe_ix ix_tup (pv 5) pe_int (fun _ _ => rfl)) (by rfl))))) rfl)
    (pss_one (ps_fld (pv 0) (pe_op op_cat (pe_lst (pa_cons pe_bl pa_nil)) (pe_lc (own := [("row", 5)]) (g := (gName 5)) (tt := tYes) rfl sc_Scheme___init__.nd (pi_list (pv 4)) (blkOk_by (own := [("row", 5)]) (N := N_Scheme___init__) (sc := defScope s_Scheme___init__) (by decide +kernel)) (fun _ _ _ _ _ => (pg_name (i := 5) sc_Scheme___init__.nd rfl (Or.inl rfl))) (fun _ _ _ _ _ => pts_nil) (fun _ _ _ _ _ => (pe_cmpR op_in_seq pe_str (pe_ix ix_tup (pv 5) pe_int (fun _ _ => rfl)) (by rfl))))) rfl))))))))))))
theorem k_Scheme___init__ {P : Program} {w : World} {mg : Str → Option Value} {base : Heap} {e : En} {f : Addr} {fd : FuncData} (T : Txt e mg) (F : FunD e.K "__init__" "Scheme.__init__" (defArgs s_Scheme___init__) (defBody s_Scheme___init__) (defScope s_Scheme___init__) [] [] f fd) (m : mg "Scheme" = some (.ref e.Scheme)) (M : Mk e.K e.Scheme f) (hl : ∀ vs H Q E, (sp_Scheme___init__ e) vs H Q E → vs.length = ["self", "name", "numbers", "through", "rows"].length) (hp : ∀ vs H Q E, (sp_Scheme___init__ e) vs H Q E → (t_Scheme___init__ e) { nx := fun _ H' => Q .non H', rt := Q } (start N_Scheme___init__ vs) H) : C8.Mak P w e.K mg base 1 "Scheme" e.Scheme (sp_Scheme___init__ e) [] :=
  ⟨f, fd, ["self", "name", "numbers", "through", "rows"], [], M, (F.ok sc_Scheme___init__ hl (fun cdv A outer s H vs Q E hr h => ⟨t_Scheme___init__ e, PSs.nox (d_Scheme___init__ T hr), hp vs H Q E h⟩)), m, (F.bindsN fun _ _ _ _ _ _ us hl => match us, hl with | [_, _, _, _, _], _ => rfl), .nil⟩
def s_read_protocol : Stmt := top 30
theorem sc_read_protocol : FnScope N_read_protocol ["text"] (defScope s_read_protocol) := ⟨rfl, rfl, rfl, by decide +kernel, rfl, by decide +kernel, by decide +kernel⟩
theorem d_read_protocol {P : Program} {w : World} {mg : Str → Option Value} {base : Heap} {e : En} (T : Txt e mg) (c_split_text : C8.Cal P w e.K mg base 1 "split_text" (sp_split_text e) []) (c_due_line : C8.Cal P w e.K mg base 2 "due_line" (sp_due_line e) []) (c_read_name : C8.Cal P w e.K mg base 3 "read_name" (sp_read_name e) []) (c_read_state : C8.Cal P w e.K mg base 5 "read_state" (sp_read_state e) []) (c_read_choice : C8.Cal P w e.K mg base 1 "read_choice" (sp_read_choice e) []) (c_read_row : C8.Cal P w e.K mg base 5 "read_row" (sp_read_row e) []) (c_Scheme___init__ : C8.Mak P w e.K mg base 1 "Scheme" e.Scheme (sp_Scheme___init__ e) []) {f : Addr} {cdv : Value} {A : Around} {outer : List Env} {s : Shared} {H : Hp} {E : XK} (hr : Room 5 (A.deeper (envOfC "read_protocol" (defScope s_read_protocol) s.heap.objs.size f cdv))) :
    PSs (cxOf CX0 P w e.K mg base N_read_protocol "read_protocol" (defScope s_read_protocol) f cdv A outer s H E).nox (defBody s_read_protocol) (t_read_protocol e) := by
    exact (pss_cons (ps_set (i := 1) sc_read_protocol.nd rfl (Or.inr rfl) (C8.pe_c c_split_text hr (by first | decide | omega) rfl (pa_cons (pv 0) pa_nil)))
    (pss_cons (ps_asg (C8.pe_c c_due_line hr (by first | decide | omega) rfl (pa_cons (pv 1) (pa_cons pe_int (pa_cons pe_str (pa_cons (pe_tup (pa_cons pe_int pa_nil)) pa_nil))))) (pg_tup rfl (pgs_cons (pg_name (i := 2) sc_read_protocol.nd rfl (Or.inl rfl)) (pgs_cons (pg_name (i := 3) sc_read_protocol.nd rfl (Or.inl rfl)) pgs_nil))))
    (pss_cons (ps_set (i := 4) sc_read_protocol.nd rfl (Or.inl rfl) (C8.pe_c c_read_name hr (by first | decide | omega) rfl (pa_cons (pv 2) (pa_cons (pe_ix ix_list (pv 3) pe_int (fun _ _ => rfl)) pa_nil))))
    (pss_cons (ps_set (i := 5) sc_read_protocol.nd rfl (Or.inr rfl) (C8.pe_c c_read_state hr (by first | decide | omega) rfl (pa_cons (pv 1) (pa_cons pe_int (pa_cons pe_str (pa_cons (C8.pe_gc rfl T.g_MOST_STATES) pa_nil))))))
    (pss_cons (ps_set (i := 6) sc_read_protocol.nd rfl (Or.inl rfl) (C8.pe_c c_read_state hr (by first | decide | omega) rfl (pa_cons (pv 1) (pa_cons pe_int (pa_cons pe_str (pa_cons (pv 5) pa_nil))))))
    (pss_cons (ps_set (i := 7) sc_read_protocol.nd rfl (Or.inl rfl) (C8.pe_c c_read_state hr (by first | decide | omega) rfl (pa_cons (pv 1) (pa_cons pe_int (pa_cons pe_str (pa_cons (pv 5) pa_nil))))))
    (pss_cons (ps_set (i := 8) sc_read_protocol.nd rfl (Or.inl rfl) (C8.pe_c c_read_state hr (by first | decide | omega) rfl (pa_cons (pv 1) (pa_cons pe_int (pa_cons pe_str (pa_cons (pv 5) pa_nil))))))
    (pss_cons (ps_asg (C8.pe_c c_due_line hr (by first | decide | omega) rfl (pa_cons (pv 1) (pa_cons pe_int (pa_cons pe_str (pa_cons (pe_tup (pa_cons pe_int pa_nil)) pa_nil))))) (pg_tup rfl (pgs_cons (pg_name (i := 2) sc_read_protocol.nd rfl (Or.inl rfl)) (pgs_cons (pg_name (i := 3) sc_read_protocol.nd rfl (Or.inl rfl)) pgs_nil))))
    (pss_cons (ps_set (i := 9) sc_read_protocol.nd rfl (Or.inl rfl) (pe_cmpR op_eq (C8.pe_c c_read_choice hr (by first | decide | omega) rfl (pa_cons (pv 2) (pa_cons (pe_ix ix_list (pv 3) pe_int (fun _ _ => rfl)) (pa_cons (pe_tup (pa_cons pe_str (pa_cons pe_str pa_nil))) pa_nil)))) pe_str (nomark _)))
    (pss_cons (ps_setLc (i := 10) (own := [("state", 11)]) (g := (gName 11)) (tt := tYes) rfl sc_read_protocol.nd rfl rfl (sw_true rfl rfl rfl (by decide +kernel)) (pi_range2 rfl T.f_range (pa_cons pe_int (pa_cons (pe_op op_add (pv 5) pe_int) pa_nil))) (blkOk_by (own := [("state", 11)]) (N := N_read_protocol) (sc := defScope s_read_protocol) (by decide +kernel)) (fun _ _ _ _ _ => (pg_name (i := 11) sc_read_protocol.nd rfl (Or.inl rfl))) (fun _ _ _ _ _ => pts_nil) (fun _ _ _ _ _ => (C8.pe_c c_read_row hr (by first | decide | omega) rfl (pa_cons (pv 1) (pa_cons (pv 11) (pa_cons (pv 5) pa_nil))))))
    (pss_cons (ps_if (pt_cmpR op_gt (pe_callB call_len_seq rfl T.f_len (by decide +kernel) (pa_cons (pv 1) pa_nil)) (pe_op op_add (C8.pe_gc rfl T.g_HEAD_LINES) (pv 5)) (nomark _))
    (pss_one ps_never)
    pss_nil)
    (pss_one (ps_ret (C8.pe_mk c_Scheme___init__ hr (by decide) rfl (pa_cons (pv 4) (pa_cons (pe_tup (pa_cons (pv 5) (pa_cons (pv 6) (pa_cons (pv 7) (pa_cons (pv 8) pa_nil))))) (pa_cons (pv 9) (pa_cons (pv 10) pa_nil))))))))))))))))))
theorem k_read_protocol {P : Program} {w : World} {mg : Str → Option Value} {base : Heap} {e : En} {f : Addr} {fd : FuncData} (T : Txt e mg) (F : FunD e.K "read_protocol" "read_protocol" (defArgs s_read_protocol) (defBody s_read_protocol) (defScope s_read_protocol) [] [] f fd) (m : mg "read_protocol" = some (.ref f)) (c_split_text : C8.Cal P w e.K mg base 1 "split_text" (sp_split_text e) []) (c_due_line : C8.Cal P w e.K mg base 2 "due_line" (sp_due_line e) []) (c_read_name : C8.Cal P w e.K mg base 3 "read_name" (sp_read_name e) []) (c_read_state : C8.Cal P w e.K mg base 5 "read_state" (sp_read_state e) []) (c_read_choice : C8.Cal P w e.K mg base 1 "read_choice" (sp_read_choice e) []) (c_read_row : C8.Cal P w e.K mg base 5 "read_row" (sp_read_row e) []) (c_Scheme___init__ : C8.Mak P w e.K mg base 1 "Scheme" e.Scheme (sp_Scheme___init__ e) []) (hl : ∀ vs H Q E, (sp_read_protocol e) vs H Q E → vs.length = ["text"].length) (hp : ∀ vs H Q E, (sp_read_protocol e) vs H Q E → (t_read_protocol e) { nx := fun _ H' => Q .non H', rt := Q } (start N_read_protocol vs) H) : C8.Cal P w e.K mg base 6 "read_protocol" (sp_read_protocol e) [] :=
  ⟨f, fd, ["text"], [], (F.ok sc_read_protocol hl (fun cdv A outer s H vs Q E hr h => ⟨t_read_protocol e, PSs.nox (d_read_protocol T c_split_text c_due_line c_read_name c_read_state c_read_choice c_read_row c_Scheme___init__ hr), hp vs H Q E h⟩)), m, F.kp, (F.bindsN fun _ _ _ _ _ _ us hl => match us, hl with | [_], _ => rfl), .nil⟩
def s_read_state : Stmt := top 31
theorem sc_read_state : FnScope N_read_state ["lines", "index", "first", "most"] (defScope s_read_state) := ⟨rfl, rfl, rfl, by decide +kernel, rfl, by decide +kernel, by decide +kernel⟩
theorem d_read_state {P : Program} {w : World} {mg : Str → Option Value} {base : Heap} {e : En} (T : Txt e mg) (c_due_line : C8.Cal P w e.K mg base 2 "due_line" (sp_due_line e) []) (c_read_number : C8.Cal P w e.K mg base 4 "read_number" (sp_read_number e) []) {f : Addr} {cdv : Value} {A : Around} {outer : List Env} {s : Shared} {H : Hp} {E : XK} (hr : Room 4 (A.deeper (envOfC "read_state" (defScope s_read_state) s.heap.objs.size f cdv))) :
    PSs (cxOf CX0 P w e.K mg base N_read_state "read_state" (defScope s_read_state) f cdv A outer s H E).nox (defBody s_read_state) (t_read_state e) := by
    exact (pss_cons (ps_asg (C8.pe_c c_due_line hr (by first | decide | omega) rfl (pa_cons (pv 0) (pa_cons (pv 1) (pa_cons (pv 2) (pa_cons (pe_tup (pa_cons pe_int pa_nil)) pa_nil))))) (pg_tup rfl (pgs_cons (pg_name (i := 4) sc_read_state.nd rfl (Or.inl rfl)) (pgs_cons (pg_name (i := 5) sc_read_state.nd rfl (Or.inl rfl)) pgs_nil))))
    (pss_one (ps_ret (C8.pe_c c_read_number hr (by first | decide | omega) rfl (pa_cons (pv 4) (pa_cons (pe_ix ix_list (pv 5) pe_int (fun _ _ => rfl)) (pa_cons pe_int (pa_cons (pv 3) pa_nil))))))))
theorem k_read_state {P : Program} {w : World} {mg : Str → Option Value} {base : Heap} {e : En} {f : Addr} {fd : FuncData} (T : Txt e mg) (F : FunD e.K "read_state" "read_state" (defArgs s_read_state) (defBody s_read_state) (defScope s_read_state) [] [] f fd) (m : mg "read_state" = some (.ref f)) (c_due_line : C8.Cal P w e.K mg base 2 "due_line" (sp_due_line e) []) (c_read_number : C8.Cal P w e.K mg base 4 "read_number" (sp_read_number e) []) (hl : ∀ vs H Q E, (sp_read_state e) vs H Q E → vs.length = ["lines", "index", "first", "most"].length) (hp : ∀ vs H Q E, (sp_read_state e) vs H Q E → (t_read_state e) { nx := fun _ H' => Q .non H', rt := Q } (start N_read_state vs) H) : C8.Cal P w e.K mg base 5 "read_state" (sp_read_state e) [] :=
  ⟨f, fd, ["lines", "index", "first", "most"], [], (F.ok sc_read_state hl (fun cdv A outer s H vs Q E hr h => ⟨t_read_state e, PSs.nox (d_read_state T c_due_line c_read_number hr), hp vs H Q E h⟩)), m, F.kp, (F.bindsN fun _ _ _ _ _ _ us hl => match us, hl with | [_, _, _, _], _ => rfl), .nil⟩
def s_read_row : Stmt := top 32
theorem sc_read_row : FnScope N_read_row ["lines", "state", "states"] (defScope s_read_row) := ⟨rfl, rfl, rfl, by decide +kernel, rfl, by decide +kernel, by decide +kernel⟩
theorem d_read_row {P : Program} {w : World} {mg : Str → Option Value} {base : Heap} {e : En} (T : Txt e mg) (c_due_line : C8.Cal P w e.K mg base 2 "due_line" (sp_due_line e) []) (c_read_number : C8.Cal P w e.K mg base 4 "read_number" (sp_read_number e) []) (c_read_choice : C8.Cal P w e.K mg base 1 "read_choice" (sp_read_choice e) []) {f : Addr} {cdv : Value} {A : Around} {outer : List Env} {s : Shared} {H : Hp} {E : XK} (hr : Room 4 (A.deeper (envOfC "read_row" (defScope s_read_row) s.heap.objs.size f cdv))) :
    PSs (cxOf CX0 P w e.K mg base N_read_row "read_row" (defScope s_read_row) f cdv A outer s H E).nox (defBody s_read_row) (t_read_row e) := by
    exact (pss_cons (ps_asg (C8.pe_c c_due_line hr (by first | decide | omega) rfl (pa_cons (pv 0) (pa_cons (pe_op op_sub (pe_op op_add (C8.pe_gc rfl T.g_HEAD_LINES) (pv 1)) pe_int) (pa_cons pe_str (pa_cons (C8.pe_gc rfl T.g_STATE_COUNTS) pa_nil))))) (pg_tup rfl (pgs_cons (pg_name (i := 3) sc_read_row.nd rfl (Or.inr rfl)) (pgs_cons (pg_name (i := 4) sc_read_row.nd rfl (Or.inl rfl)) pgs_nil))))
    (pss_cons (ps_expr (C8.pe_c c_read_number hr (by first | decide | omega) rfl (pa_cons (pv 3) (pa_cons (pe_ix ix_list (pv 4) pe_int (fun _ _ => rfl)) (pa_cons (pv 1) (pa_cons (pv 1) pa_nil))))))
    (pss_cons (ps_asg (pe_lc (own := [("word", 9)]) (g := (gName 9)) (tt := tYes) rfl sc_read_row.nd (pi_list (pe_slice sl_list (pv 4) (po_some pe_int) (po_some pe_int))) (blkOk_by (own := [("word", 9)]) (N := N_read_row) (sc := defScope s_read_row) (by decide +kernel)) (fun _ _ _ _ _ => (pg_name (i := 9) sc_read_row.nd rfl (Or.inl rfl))) (fun _ _ _ _ _ => pts_nil) (fun _ _ _ _ _ => (C8.pe_c c_read_number hr (by first | decide | omega) rfl (pa_cons (pv 3) (pa_cons (pv 9) (pa_cons pe_int (pa_cons (pv 2) pa_nil))))))) (pg_unl rfl (pgs_cons (pg_name (i := 5) sc_read_row.nd rfl (Or.inl rfl)) (pgs_cons (pg_name (i := 6) sc_read_row.nd rfl (Or.inl rfl)) (pgs_cons (pg_name (i := 7) sc_read_row.nd rfl (Or.inl rfl)) pgs_nil)))))
    (pss_cons (ps_set (i := 8) sc_read_row.nd rfl (Or.inr rfl) (pe_lst pa_nil))
    (pss_cons (ps_for PassesOwn.never rfl (pi_list (pe_slice sl_list (pv 4) (po_some pe_int) po_none)) (pg_name (i := 9) sc_read_row.nd rfl (Or.inl rfl))
    (pss_cons (ps_set (i := 10) sc_read_row.nd rfl (Or.inl rfl) (C8.pe_c c_read_choice hr (by first | decide | omega) rfl (pa_cons (pv 3) (pa_cons (pv 9) (pa_cons (C8.pe_gc rfl T.g_FLAGS) pa_nil)))))
    (pss_cons (ps_if (pt_cmpR op_in_seq (pv 10) (pv 8) (by rfl))
    (pss_one ps_never)
    pss_nil)
    (pss_one (ps_expr (pe_bm PySem.F.plainAttrs_list PySem.F.slot_list_append PySem.F.type_list_append mt_append (pv 8) (pa_cons (pv 10) pa_nil)))))))
    (pss_cons (ps_if (pt_cmpR (op_neD hr.units) (pv 8) (pe_lc (own := [("flag", 10)]) (g := (gName 10)) (tt := (tTest (tOp (rIn e.K false) (tVar 10) (tVar 8)))) rfl sc_read_row.nd (pi_tup (C8.pe_gc rfl T.g_FLAGS)) (blkOk_by (own := [("flag", 10)]) (N := N_read_row) (sc := defScope s_read_row) (by decide +kernel)) (fun _ _ _ _ _ => (pg_name (i := 10) sc_read_row.nd rfl (Or.inl rfl))) (fun _ _ _ _ _ => (pts_one (pt_cmpR op_in_seq (pv 10) (pv 8) (by rfl)))) (fun _ _ _ _ _ => (pv 10))) (nomark _))
    (pss_one ps_never)
    pss_nil)
    (pss_one (ps_ret (pe_tup (pa_cons (pv 5) (pa_cons (pv 6) (pa_cons (pv 7) (pa_cons (pe_callTy call_tuple_of rfl T.f_tuple (by decide +kernel) (pa_cons (pv 8) pa_nil)) pa_nil)))))))))))))
theorem k_read_row {P : Program} {w : World} {mg : Str → Option Value} {base : Heap} {e : En} {f : Addr} {fd : FuncData} (T : Txt e mg) (F : FunD e.K "read_row" "read_row" (defArgs s_read_row) (defBody s_read_row) (defScope s_read_row) [] [] f fd) (m : mg "read_row" = some (.ref f)) (c_due_line : C8.Cal P w e.K mg base 2 "due_line" (sp_due_line e) []) (c_read_number : C8.Cal P w e.K mg base 4 "read_number" (sp_read_number e) []) (c_read_choice : C8.Cal P w e.K mg base 1 "read_choice" (sp_read_choice e) []) (hl : ∀ vs H Q E, (sp_read_row e) vs H Q E → vs.length = ["lines", "state", "states"].length) (hp : ∀ vs H Q E, (sp_read_row e) vs H Q E → (t_read_row e) { nx := fun _ H' => Q .non H', rt := Q } (start N_read_row vs) H) : C8.Cal P w e.K mg base 5 "read_row" (sp_read_row e) [] :=
  ⟨f, fd, ["lines", "state", "states"], [], (F.ok sc_read_row hl (fun cdv A outer s H vs Q E hr h => ⟨t_read_row e, PSs.nox (d_read_row T c_due_line c_read_number c_read_choice hr), hp vs H Q E h⟩)), m, F.kp, (F.bindsN fun _ _ _ _ _ _ us hl => match us, hl with | [_, _, _], _ => rfl), .nil⟩
def s_law_cell : Stmt := top 34
theorem sc_law_cell : FnScope N_law_cell ["script", "k"] (defScope s_law_cell) := ⟨rfl, rfl, rfl, by decide +kernel, rfl, by decide +kernel, by decide +kernel⟩
theorem d_law_cell {P : Program} {w : World} {mg : Str → Option Value} {base : Heap} {e : En} (T : Txt e mg) {f : Addr} {cdv : Value} {A : Around} {outer : List Env} {s : Shared} {H : Hp} {E : XK} (hr : Room 0 (A.deeper (envOfC "_law_cell" (defScope s_law_cell) s.heap.objs.size f cdv))) :
    PSs (cxOf CX0 P w e.K mg base N_law_cell "_law_cell" (defScope s_law_cell) f cdv A outer s H E).nox (defBody s_law_cell) (t_law_cell e) := by
    exact (pss_cons (ps_set (i := 2) sc_law_cell.nd rfl (Or.inl rfl) pe_int)
    (pss_cons (ps_if (PW.pt (pw_and (pt_cmpR op_lt (pv 1) (pe_callB call_len_seq rfl T.f_len (by decide +kernel) (pa_cons (pv 0) pa_nil)) (nomark _)) (pw_and1 (pt_cmpR op_lt (pv 1) pe_int (nomark _)))))
    (pss_one (ps_set (i := 2) sc_law_cell.nd rfl (Or.inl rfl) (pe_callB call_abs rfl T.f_abs (by decide +kernel) (pa_cons (pe_callTy call_int1 rfl T.f_int (by decide +kernel) (pa_cons (pe_ix ix_list (pv 0) (pv 1) (fun _ _ => rfl)) pa_nil)) pa_nil))))
    (pss_one (ps_if (pt_cmpR op_gt (pe_callB call_len_seq rfl T.f_len (by decide +kernel) (pa_cons (pv 0) pa_nil)) pe_int (nomark _))
    (pss_one (ps_set (i := 2) sc_law_cell.nd rfl (Or.inl rfl) (pe_op op_add (pe_op op_mod (pe_callTy call_int1 rfl T.f_int (by decide +kernel) (pa_cons (pe_callB call_abs rfl T.f_abs (by decide +kernel) (pa_cons (pe_callTy call_int1 rfl T.f_int (by decide +kernel) (pa_cons (pe_ix ix_list (pv 0) pe_int (fun _ _ => rfl)) pa_nil)) pa_nil)) pa_nil)) pe_int) (pe_op op_mul pe_int (pe_op op_mod (pe_callB call_len_seq rfl T.f_len (by decide +kernel) (pa_cons (pv 0) pa_nil)) pe_int)))))
    pss_nil)))
    (pss_cons (ps_if (pt_cmpR op_ge (pv 2) (pe_op op_pow pe_int pe_int) (nomark _))
    (pss_one (ps_ret (pv 2)))
    pss_nil)
    (pss_one (ps_ret (pe_op op_add (pe_op op_mul (pv 2) pe_int) (pv 1)))))))
theorem k_law_cell {P : Program} {w : World} {mg : Str → Option Value} {base : Heap} {e : En} {f : Addr} {fd : FuncData} (T : Txt e mg) (F : FunD e.K "_law_cell" "_law_cell" (defArgs s_law_cell) (defBody s_law_cell) (defScope s_law_cell) [] [] f fd) (m : mg "_law_cell" = some (.ref f)) (hl : ∀ vs H Q E, (sp_law_cell e) vs H Q E → vs.length = ["script", "k"].length) (hp : ∀ vs H Q E, (sp_law_cell e) vs H Q E → (t_law_cell e) { nx := fun _ H' => Q .non H', rt := Q } (start N_law_cell vs) H) : C8.Cal P w e.K mg base 1 "_law_cell" (sp_law_cell e) [] :=
  ⟨f, fd, ["script", "k"], [], (F.ok sc_law_cell hl (fun cdv A outer s H vs Q E hr h => ⟨t_law_cell e, PSs.nox (d_law_cell T hr), hp vs H Q E h⟩)), m, F.kp, (F.bindsN fun _ _ _ _ _ _ us hl => match us, hl with | [_, _], _ => rfl), .nil⟩
def s_law_mix : Stmt := top 35
theorem sc_law_mix : FnScope N_law_mix ["cell", "k"] (defScope s_law_mix) := ⟨rfl, rfl, rfl, by decide +kernel, rfl, by decide +kernel, by decide +kernel⟩
theorem d_law_mix {P : Program} {w : World} {mg : Str → Option Value} {base : Heap} {e : En} (T : Txt e mg) {f : Addr} {cdv : Value} {A : Around} {outer : List Env} {s : Shared} {H : Hp} {E : XK} (hr : Room 0 (A.deeper (envOfC "_law_mix" (defScope s_law_mix) s.heap.objs.size f cdv))) :
    PSs (cxOf CX0 P w e.K mg base N_law_mix "_law_mix" (defScope s_law_mix) f cdv A outer s H E).nox (defBody s_law_mix) (t_law_mix e) := by
    exact (pss_cons (ps_set (i := 2) sc_law_mix.nd rfl (Or.inl rfl) (pe_op op_mod (pe_callTy call_int1 rfl T.f_int (by decide +kernel) (pa_cons (pe_op op_add (pe_op op_add (pe_op op_mul (pv 0) pe_int) (pe_op op_mul (pv 1) pe_int)) pe_int) pa_nil)) pe_int))
    (pss_cons (ps_set (i := 2) sc_law_mix.nd rfl (Or.inl rfl) (pe_op op_mod (pe_callTy call_int1 rfl T.f_int (by decide +kernel) (pa_cons (pe_op op_add (pe_op op_add (pe_op op_mul (pv 2) (pv 2)) (pe_op op_mul (pv 1) pe_int)) pe_int) pa_nil)) pe_int))
    (pss_cons (ps_set (i := 2) sc_law_mix.nd rfl (Or.inl rfl) (pe_op op_mod (pe_callTy call_int1 rfl T.f_int (by decide +kernel) (pa_cons (pe_op op_add (pe_op op_add (pe_op op_mul (pv 2) (pv 2)) (pe_op op_fdiv (pv 2) pe_int)) (pv 1)) pa_nil)) pe_int))
    (pss_one (ps_ret (pe_op op_fdiv (pv 2) pe_int))))))
theorem k_law_mix {P : Program} {w : World} {mg : Str → Option Value} {base : Heap} {e : En} {f : Addr} {fd : FuncData} (T : Txt e mg) (F : FunD e.K "_law_mix" "_law_mix" (defArgs s_law_mix) (defBody s_law_mix) (defScope s_law_mix) [] [] f fd) (m : mg "_law_mix" = some (.ref f)) (hl : ∀ vs H Q E, (sp_law_mix e) vs H Q E → vs.length = ["cell", "k"].length) (hp : ∀ vs H Q E, (sp_law_mix e) vs H Q E → (t_law_mix e) { nx := fun _ H' => Q .non H', rt := Q } (start N_law_mix vs) H) : C8.Cal P w e.K mg base 1 "_law_mix" (sp_law_mix e) [] :=
  ⟨f, fd, ["cell", "k"], [], (F.ok sc_law_mix hl (fun cdv A outer s H vs Q E hr h => ⟨t_law_mix e, PSs.nox (d_law_mix T hr), hp vs H Q E h⟩)), m, F.kp, (F.bindsN fun _ _ _ _ _ _ us hl => match us, hl with | [_, _], _ => rfl), .nil⟩
def s_law_draws : Stmt := top 36
theorem sc_law_draws : FnScope N_law_draws ["cell", "count", "base"] (defScope s_law_draws) := ⟨rfl, rfl, rfl, by decide +kernel, rfl, by decide +kernel, by decide +kernel⟩
theorem d_law_draws {P : Program} {w : World} {mg : Str → Option Value} {base : Heap} {e : En} (T : Txt e mg) (c_law_mix : C8.Cal P w e.K mg base 1 "_law_mix" (sp_law_mix e) []) {f : Addr} {cdv : Value} {A : Around} {outer : List Env} {s : Shared} {H : Hp} {E : XK} (hr : Room 1 (A.deeper (envOfC "_law_draws" (defScope s_law_draws) s.heap.objs.size f cdv))) :
    PSs (cxOf CX0 P w e.K mg base N_law_draws "_law_draws" (defScope s_law_draws) f cdv A outer s H E).nox (defBody s_law_draws) (t_law_draws e) := by
    exact (pss_cons (ps_set (i := 3) sc_law_draws.nd rfl (Or.inl rfl) (pv 0))
    (pss_cons (ps_set (i := 4) sc_law_draws.nd rfl (Or.inl rfl) (pe_op op_mod (pe_callTy call_int1 rfl T.f_int (by decide +kernel) (pa_cons (pv 0) pa_nil)) pe_int))
    (pss_cons (ps_set (i := 5) sc_law_draws.nd rfl (Or.inl rfl) (pe_lst pa_nil))
    (pss_cons (ps_for PassesOwn.never rfl (pi_range1 rfl T.f_range (pa_cons (pv 1) pa_nil)) (pg_name (i := 6) sc_law_draws.nd rfl (Or.inl rfl))
    (pss_one (ps_if (PW.pt (pw_and (pt_cmpR op_ge (pv 0) (pe_op op_pow pe_int pe_int) (nomark _)) (pw_and1 (pt_cmpR op_gt (pv 3) pe_int (nomark _)))))
    (pss_cons (ps_expr (pe_bm PySem.F.plainAttrs_list PySem.F.slot_list_append PySem.F.type_list_append mt_append (pv 5) (pa_cons (pe_op op_mod (pe_callTy call_int1 rfl T.f_int (by decide +kernel) (pa_cons (pv 3) pa_nil)) (pv 2)) pa_nil)))
    (pss_one (ps_set (i := 3) sc_law_draws.nd rfl (Or.inl rfl) (pe_op op_fdivW (pv 3) (pv 2)))))
    (pss_one (ps_expr (pe_bm PySem.F.plainAttrs_list PySem.F.slot_list_append PySem.F.type_list_append mt_append (pv 5) (pa_cons (pe_op op_mod (pe_callTy call_int1 rfl T.f_int (by decide +kernel) (pa_cons (C8.pe_c c_law_mix hr (by first | decide | omega) rfl (pa_cons (pv 4) (pa_cons (pv 6) pa_nil))) pa_nil)) (pv 2)) pa_nil)))))))
    (pss_one (ps_ret (pv 5)))))))
theorem k_law_draws {P : Program} {w : World} {mg : Str → Option Value} {base : Heap} {e : En} {f : Addr} {fd : FuncData} (T : Txt e mg) (F : FunD e.K "_law_draws" "_law_draws" (defArgs s_law_draws) (defBody s_law_draws) (defScope s_law_draws) [] [] f fd) (m : mg "_law_draws" = some (.ref f)) (c_law_mix : C8.Cal P w e.K mg base 1 "_law_mix" (sp_law_mix e) []) (hl : ∀ vs H Q E, (sp_law_draws e) vs H Q E → vs.length = ["cell", "count", "base"].length) (hp : ∀ vs H Q E, (sp_law_draws e) vs H Q E → (t_law_draws e) { nx := fun _ H' => Q .non H', rt := Q } (start N_law_draws vs) H) : C8.Cal P w e.K mg base 2 "_law_draws" (sp_law_draws e) [] :=
  ⟨f, fd, ["cell", "count", "base"], [], (F.ok sc_law_draws hl (fun cdv A outer s H vs Q E hr h => ⟨t_law_draws e, PSs.nox (d_law_draws T c_law_mix hr), hp vs H Q E h⟩)), m, F.kp, (F.bindsN fun _ _ _ _ _ _ us hl => match us, hl with | [_, _, _], _ => rfl), .nil⟩
def s_law_number : Stmt := top 37
theorem sc_law_number : FnScope N_law_number ["x"] (defScope s_law_number) := ⟨rfl, rfl, rfl, by decide +kernel, rfl, by decide +kernel, by decide +kernel⟩
theorem d_law_number {P : Program} {w : World} {mg : Str → Option Value} {base : Heap} {e : En} (T : Txt e mg) {f : Addr} {cdv : Value} {A : Around} {outer : List Env} {s : Shared} {H : Hp} {E : XK} (hr : Room 0 (A.deeper (envOfC "_law_number" (defScope s_law_number) s.heap.objs.size f cdv))) :
    PSs (cxOf CX0 P w e.K mg base N_law_number "_law_number" (defScope s_law_number) f cdv A outer s H E).nox (defBody s_law_number) (t_law_number e) := by
    exact (pss_one (ps_ret (pe_and (pe_callB call_isi rfl T.f_isinstance (by decide +kernel) (pa_cons (pv 0) (pa_cons (pe_bltn rfl T.f_int (by decide +kernel) rfl) pa_nil))) (pe_one (pe_not (pe_callB call_isi rfl T.f_isinstance (by decide +kernel) (pa_cons (pv 0) (pa_cons (pe_bltn rfl T.f_bool (by decide +kernel) rfl) pa_nil))))))))
theorem k_law_number {P : Program} {w : World} {mg : Str → Option Value} {base : Heap} {e : En} {f : Addr} {fd : FuncData} (T : Txt e mg) (F : FunD e.K "_law_number" "_law_number" (defArgs s_law_number) (defBody s_law_number) (defScope s_law_number) [] [] f fd) (m : mg "_law_number" = some (.ref f)) (hl : ∀ vs H Q E, (sp_law_number e) vs H Q E → vs.length = ["x"].length) (hp : ∀ vs H Q E, (sp_law_number e) vs H Q E → (t_law_number e) { nx := fun _ H' => Q .non H', rt := Q } (start N_law_number vs) H) : C8.Cal P w e.K mg base 1 "_law_number" (sp_law_number e) [] :=
  ⟨f, fd, ["x"], [], (F.ok sc_law_number hl (fun cdv A outer s H vs Q E hr h => ⟨t_law_number e, PSs.nox (d_law_number T hr), hp vs H Q E h⟩)), m, F.kp, (F.bindsN fun _ _ _ _ _ _ us hl => match us, hl with | [_], _ => rfl), .nil⟩
def s_law_same : Stmt := top 38
theorem sc_law_same : FnScope N_law_same ["told", "due"] (defScope s_law_same) := ⟨rfl, rfl, rfl, by decide +kernel, rfl, by decide +kernel, by decide +kernel⟩
theorem d_law_same {P : Program} {w : World} {mg : Str → Option Value} {base : Heap} {e : En} (T : Txt e mg) (c_law_number : C8.Cal P w e.K mg base 1 "_law_number" (sp_law_number e) []) {sp_rec : Sp} {j : Nat} (hj : 1 ≤ j) (c_rec : C8.Cal P w e.K mg base j "_law_same" sp_rec []) {f : Addr} {cdv : Value} {A : Around} {outer : List Env} {s : Shared} {H : Hp} {E : XK} (hr : Room j (A.deeper (envOfC "_law_same" (defScope s_law_same) s.heap.objs.size f cdv))) :
    PSs (cxOf CX0 P w e.K mg base N_law_same "_law_same" (defScope s_law_same) f cdv A outer s H E).nox (defBody s_law_same) (t_law_same e sp_rec) := by
    exact (pss_cons (ps_if (pt_cmpR op_isN1 (pv 1) pe_non (nomark _))
    (pss_one (ps_ret (pe_cmpR op_isN1 (pv 0) pe_non (nomark _))))
    pss_nil)
    (pss_cons (ps_if (pt_val (pe_callB call_isi rfl T.f_isinstance (by decide +kernel) (pa_cons (pv 1) (pa_cons (pe_bltn rfl T.f_bool (by decide +kernel) rfl) pa_nil))))
    (pss_one (ps_ret (pe_and (pe_callB call_isi rfl T.f_isinstance (by decide +kernel) (pa_cons (pv 0) (pa_cons (pe_bltn rfl T.f_bool (by decide +kernel) rfl) pa_nil))) (pe_one (pe_cmpR op_eq (pv 0) (pv 1) (nomark _))))))
    pss_nil)
    (pss_cons (ps_if (pt_val (pe_callB call_isi rfl T.f_isinstance (by decide +kernel) (pa_cons (pv 1) (pa_cons (pe_bltn rfl T.f_int (by decide +kernel) rfl) pa_nil))))
    (pss_one (ps_ret (pe_and (C8.pe_c c_law_number hr (by first | decide | omega) rfl (pa_cons (pv 0) pa_nil)) (pe_one (pe_cmpR op_eq (pv 0) (pv 1) (nomark _))))))
    pss_nil)
    (pss_cons (ps_if (pt_val (pe_callB call_isi rfl T.f_isinstance (by decide +kernel) (pa_cons (pv 1) (pa_cons (pe_bltn rfl T.f_str (by decide +kernel) rfl) pa_nil))))
    (pss_one (ps_ret (pe_and (pe_callB call_isi rfl T.f_isinstance (by decide +kernel) (pa_cons (pv 0) (pa_cons (pe_bltn rfl T.f_str (by decide +kernel) rfl) pa_nil))) (pe_one (pe_cmpR op_eq (pv 0) (pv 1) (nomark _))))))
    pss_nil)
    (pss_cons (ps_if (PW.pt (pw_and (pt_val (pe_callB call_isi rfl T.f_isinstance (by decide +kernel) (pa_cons (pv 1) (pa_cons (pe_bltn rfl T.f_tuple (by decide +kernel) rfl) pa_nil)))) (pw_and1 (pt_not (pt_val (pe_callB call_isi rfl T.f_isinstance (by decide +kernel) (pa_cons (pv 0) (pa_cons (pe_bltn rfl T.f_tuple (by decide +kernel) rfl) pa_nil))))))))
    (pss_one (ps_ret pe_bl))
    pss_nil)
    (pss_cons (ps_if (PW.pt (pw_and (pt_val (pe_callB call_isi rfl T.f_isinstance (by decide +kernel) (pa_cons (pv 1) (pa_cons (pe_bltn rfl T.f_list (by decide +kernel) rfl) pa_nil)))) (pw_and1 (pt_not (pt_val (pe_callB call_isi rfl T.f_isinstance (by decide +kernel) (pa_cons (pv 0) (pa_cons (pe_bltn rfl T.f_list (by decide +kernel) rfl) pa_nil))))))))
    (pss_one (ps_ret pe_bl))
    pss_nil)
    (pss_cons (ps_if (pt_cmpR op_ne (pe_callB call_len_seq rfl T.f_len (by decide +kernel) (pa_cons (pv 0) pa_nil)) (pe_callB call_len_seq rfl T.f_len (by decide +kernel) (pa_cons (pv 1) pa_nil)) (nomark _))
    (pss_one (ps_ret pe_bl))
    pss_nil)
    (pss_cons (ps_for PassesOwn.never rfl (pi_range1 rfl T.f_range (pa_cons (pe_callB call_len_seq rfl T.f_len (by decide +kernel) (pa_cons (pv 1) pa_nil)) pa_nil)) (pg_name (i := 2) sc_law_same.nd rfl (Or.inl rfl))
    (pss_one (ps_if (pt_not (pt_val (C8.pe_c c_rec hr (by omega) rfl (pa_cons (pe_ix ix_seq (pv 0) (pv 2) (fun _ _ => rfl)) (pa_cons (pe_ix ix_seq (pv 1) (pv 2) (fun _ _ => rfl)) pa_nil)))))
    (pss_one (ps_ret pe_bl))
    pss_nil)))
    (pss_one (ps_ret pe_bl))))))))))
theorem k_law_same {P : Program} {w : World} {mg : Str → Option Value} {base : Heap} {e : En} {f : Addr} {fd : FuncData} (T : Txt e mg) (F : FunD e.K "_law_same" "_law_same" (defArgs s_law_same) (defBody s_law_same) (defScope s_law_same) [] [] f fd) (m : mg "_law_same" = some (.ref f)) (c_law_number : C8.Cal P w e.K mg base 1 "_law_number" (sp_law_number e) []) {sp_own : Sp} {sp_rec : Sp} {j : Nat} (hj : 1 ≤ j) (c_rec : C8.Cal P w e.K mg base j "_law_same" sp_rec []) (hl : ∀ vs H Q E, sp_own vs H Q E → vs.length = ["told", "due"].length) (hp : ∀ vs H Q E, sp_own vs H Q E → (t_law_same e sp_rec) { nx := fun _ H' => Q .non H', rt := Q } (start N_law_same vs) H) : C8.Cal P w e.K mg base (j + 1) "_law_same" sp_own [] :=
  ⟨f, fd, ["told", "due"], [], (F.ok sc_law_same hl (fun cdv A outer s H vs Q E hr h => ⟨t_law_same e sp_rec, PSs.nox (d_law_same T c_law_number hj c_rec hr), hp vs H Q E h⟩)), m, F.kp, (F.bindsN fun _ _ _ _ _ _ us hl => match us, hl with | [_, _], _ => rfl), .nil⟩
def s_law_merge : Stmt := top 39
theorem sc_law_merge : FnScope N_law_merge ["old", "new", "cover"] (defScope s_law_merge) := ⟨rfl, rfl, rfl, by decide +kernel, rfl, by decide +kernel, by decide +kernel⟩
theorem d_law_merge {P : Program} {w : World} {mg : Str → Option Value} {base : Heap} {e : En} (T : Txt e mg) {f : Addr} {cdv : Value} {A : Around} {outer : List Env} {s : Shared} {H : Hp} {E : XK} (hr : Room 0 (A.deeper (envOfC "_law_merge" (defScope s_law_merge) s.heap.objs.size f cdv))) :
    PSs (cxOf CX0 P w e.K mg base N_law_merge "_law_merge" (defScope s_law_merge) f cdv A outer s H E).nox (defBody s_law_merge) (t_law_merge e) := by
    exact (pss_cons (ps_set (i := 3) sc_law_merge.nd rfl (Or.inl rfl) pe_int)
    (pss_cons (ps_for PassesOwn.never rfl (pi_range1 rfl T.f_range (pa_cons pe_int pa_nil)) (pg_name (i := 4) sc_law_merge.nd rfl (Or.inl rfl))
    (pss_cons (ps_set (i := 5) sc_law_merge.nd rfl (Or.inl rfl) (pe_ifExp (pt_cmpR op_eq (pe_op op_and (pe_op op_shr (pv 2) (pv 4)) pe_int) pe_int (nomark _)) (pv 1) (pv 0)))
    (pss_one (ps_set (i := 3) sc_law_merge.nd rfl (Or.inl rfl) (pe_op op_add (pv 3) (pe_op op_shl (pe_op op_and (pe_op op_shr (pv 5) (pe_op op_mul pe_int (pv 4))) pe_int) (pe_op op_mul pe_int (pv 4))))))))
    (pss_one (ps_ret (pv 3)))))
theorem k_law_merge {P : Program} {w : World} {mg : Str → Option Value} {base : Heap} {e : En} {f : Addr} {fd : FuncData} (T : Txt e mg) (F : FunD e.K "_law_merge" "_law_merge" (defArgs s_law_merge) (defBody s_law_merge) (defScope s_law_merge) [] [] f fd) (m : mg "_law_merge" = some (.ref f)) (hl : ∀ vs H Q E, (sp_law_merge e) vs H Q E → vs.length = ["old", "new", "cover"].length) (hp : ∀ vs H Q E, (sp_law_merge e) vs H Q E → (t_law_merge e) { nx := fun _ H' => Q .non H', rt := Q } (start N_law_merge vs) H) : C8.Cal P w e.K mg base 1 "_law_merge" (sp_law_merge e) [] :=
  ⟨f, fd, ["old", "new", "cover"], [], (F.ok sc_law_merge hl (fun cdv A outer s H vs Q E hr h => ⟨t_law_merge e, PSs.nox (d_law_merge T hr), hp vs H Q E h⟩)), m, F.kp, (F.bindsN fun _ _ _ _ _ _ us hl => match us, hl with | [_, _, _], _ => rfl), .nil⟩
def s_law_value : Stmt := top 40
theorem sc_law_value : FnScope N_law_value ["x", "top"] (defScope s_law_value) := ⟨rfl, rfl, rfl, by decide +kernel, rfl, by decide +kernel, by decide +kernel⟩
theorem d_law_value {P : Program} {w : World} {mg : Str → Option Value} {base : Heap} {e : En} (T : Txt e mg) {f : Addr} {cdv : Value} {A : Around} {outer : List Env} {s : Shared} {H : Hp} {E : XK} (hr : Room 0 (A.deeper (envOfC "_law_value" (defScope s_law_value) s.heap.objs.size f cdv))) :
    PSs (cxOf CX0 P w e.K mg base N_law_value "_law_value" (defScope s_law_value) f cdv A outer s H E).nox (defBody s_law_value) (t_law_value e) := by
    exact (pss_cons (ps_set (i := 2) sc_law_value.nd rfl (Or.inl rfl) (pe_op op_mod (pe_callTy call_int1 rfl T.f_int (by decide +kernel) (pa_cons (pv 0) pa_nil)) pe_int))
    (pss_cons (ps_set (i := 3) sc_law_value.nd rfl (Or.inl rfl) (pe_op op_mod (pe_callTy call_int1 rfl T.f_int (by decide +kernel) (pa_cons (pe_op op_fdiv (pv 0) pe_int) pa_nil)) (pv 1)))
    (pss_one (ps_ret (pe_ix ix_list (pe_lst (pa_cons pe_int (pa_cons pe_int (pa_cons (pe_op op_sub (pv 1) pe_int) (pa_cons (pe_op op_fdiv (pv 1) pe_int) (pa_cons (pe_op op_mod (pe_callTy call_int1 rfl T.f_int (by decide +kernel) (pa_cons (pv 3) pa_nil)) pe_int) (pa_cons (pv 3) (pa_cons (pe_op op_sub (pe_op op_sub (pv 1) pe_int) (pv 3)) (pa_cons (pe_op op_mod (pe_callTy call_int1 rfl T.f_int (by decide +kernel) (pa_cons (pe_op op_mul (pv 3) pe_int) pa_nil)) (pv 1)) pa_nil))))))))) (pv 2) (fun _ _ => rfl))))))
theorem k_law_value {P : Program} {w : World} {mg : Str → Option Value} {base : Heap} {e : En} {f : Addr} {fd : FuncData} (T : Txt e mg) (F : FunD e.K "_law_value" "_law_value" (defArgs s_law_value) (defBody s_law_value) (defScope s_law_value) [] [] f fd) (m : mg "_law_value" = some (.ref f)) (hl : ∀ vs H Q E, (sp_law_value e) vs H Q E → vs.length = ["x", "top"].length) (hp : ∀ vs H Q E, (sp_law_value e) vs H Q E → (t_law_value e) { nx := fun _ H' => Q .non H', rt := Q } (start N_law_value vs) H) : C8.Cal P w e.K mg base 1 "_law_value" (sp_law_value e) [] :=
  ⟨f, fd, ["x", "top"], [], (F.ok sc_law_value hl (fun cdv A outer s H vs Q E hr h => ⟨t_law_value e, PSs.nox (d_law_value T hr), hp vs H Q E h⟩)), m, F.kp, (F.bindsN fun _ _ _ _ _ _ us hl => match us, hl with | [_, _], _ => rfl), .nil⟩
def s_law_sharing : Stmt := top 41
theorem sc_law_sharing : FnScope N_law_sharing ["t"] (defScope s_law_sharing) := ⟨rfl, rfl, rfl, by decide +kernel, rfl, by decide +kernel, by decide +kernel⟩
theorem d_law_sharing {P : Program} {w : World} {mg : Str → Option Value} {base : Heap} {e : En} (T : Txt e mg) {f : Addr} {cdv : Value} {A : Around} {outer : List Env} {s : Shared} {H : Hp} {E : XK} (hr : Room 0 (A.deeper (envOfC "_law_sharing" (defScope s_law_sharing) s.heap.objs.size f cdv))) :
    PSs (cxOf CX0 P w e.K mg base N_law_sharing "_law_sharing" (defScope s_law_sharing) f cdv A outer s H E).nox (defBody s_law_sharing) (t_law_sharing e) := by
    exact (pss_cons (ps_set (i := 1) sc_law_sharing.nd rfl (Or.inl rfl) (pe_op op_mod (pe_ix ix_list (pv 0) pe_int (fun _ _ => rfl)) pe_int))
    (pss_cons (ps_set (i := 2) sc_law_sharing.nd rfl (Or.inl rfl) (pe_ix ix_list (pe_lst (pa_cons pe_str (pa_cons pe_str pa_nil))) (pe_callTy call_int1 rfl T.f_int (by decide +kernel) (pa_cons (pe_cmpR op_eq (pe_op op_mod (pe_ix ix_list (pv 0) pe_int (fun _ _ => rfl)) pe_int) pe_int (nomark _)) pa_nil)) (fun _ _ => rfl)))
    (pss_cons (ps_set (i := 3) sc_law_sharing.nd rfl (Or.inl rfl) (pe_lst (pa_cons (pe_lst (pa_cons pe_str (pa_cons pe_str (pa_cons pe_str (pa_cons pe_str (pa_cons pe_str (pa_cons pe_str (pa_cons pe_str pa_nil)))))))) pa_nil)))
    (pss_cons (ps_expr (pe_bm PySem.F.plainAttrs_list PySem.F.slot_list_append PySem.F.type_list_append mt_append (pv 3) (pa_cons (pe_lst (pa_cons pe_str (pa_cons pe_str (pa_cons pe_str (pa_cons pe_str (pa_cons pe_str (pa_cons (pe_op op_add_str pe_str (pv 2)) (pa_cons pe_str (pa_cons pe_str pa_nil))))))))) pa_nil)))
    (pss_cons (ps_expr (pe_bm PySem.F.plainAttrs_list PySem.F.slot_list_append PySem.F.type_list_append mt_append (pv 3) (pa_cons (pe_lst (pa_cons pe_str (pa_cons pe_str (pa_cons pe_str (pa_cons pe_str (pa_cons pe_str (pa_cons (pe_op op_add_str pe_str (pv 2)) (pa_cons pe_str (pa_cons pe_str (pa_cons pe_str pa_nil)))))))))) pa_nil)))
    (pss_cons (ps_expr (pe_bm PySem.F.plainAttrs_list PySem.F.slot_list_append PySem.F.type_list_append mt_append (pv 3) (pa_cons (pe_lst (pa_cons pe_str (pa_cons pe_str (pa_cons pe_str (pa_cons pe_str (pa_cons pe_str (pa_cons (pe_op op_add_str pe_str (pv 2)) (pa_cons pe_str (pa_cons pe_str (pa_cons pe_str (pa_cons pe_str pa_nil))))))))))) pa_nil)))
    (pss_cons (ps_set (i := 4) sc_law_sharing.nd rfl (Or.inl rfl) (pe_ix ix_list (pv 3) (pv 1) (fun _ _ => rfl)))
    (pss_cons (ps_if (PW.pt (pw_and (pt_cmpR op_gt (pv 1) pe_int (nomark _)) (pw_and1 (pt_cmpR op_eq (pe_op op_mod (pe_ix ix_list (pv 0) pe_int (fun _ _ => rfl)) pe_int) pe_int (nomark _)))))
    (pss_one (ps_asg pe_str (pg_sub (pv 4) pe_int set_list)))
    pss_nil)
    (pss_cons (ps_set (i := 5) sc_law_sharing.nd rfl (Or.inl rfl) (pe_lst (pa_cons (pe_lst pa_nil) (pa_cons (pe_lst (pa_cons (pe_tup (pa_cons pe_int (pa_cons pe_str pa_nil))) (pa_cons (pe_tup (pa_cons pe_int (pa_cons pe_str pa_nil))) (pa_cons (pe_tup (pa_cons pe_int (pa_cons pe_str pa_nil))) (pa_cons (pe_tup (pa_cons pe_int (pa_cons pe_str pa_nil))) pa_nil))))) pa_nil))))
    (pss_cons (ps_expr (pe_bm PySem.F.plainAttrs_list PySem.F.slot_list_append PySem.F.type_list_append mt_append (pv 5) (pa_cons (pe_lst (pa_cons (pe_tup (pa_cons pe_int (pa_cons pe_str pa_nil))) (pa_cons (pe_tup (pa_cons pe_int (pa_cons pe_str pa_nil))) (pa_cons (pe_tup (pa_cons pe_int (pa_cons pe_str pa_nil))) (pa_cons (pe_tup (pa_cons pe_int (pa_cons pe_str pa_nil))) pa_nil))))) pa_nil)))
    (pss_cons (ps_expr (pe_bm PySem.F.plainAttrs_list PySem.F.slot_list_append PySem.F.type_list_append mt_append (pv 5) (pa_cons (pe_lst (pa_cons (pe_tup (pa_cons pe_int (pa_cons pe_str pa_nil))) (pa_cons (pe_tup (pa_cons pe_int (pa_cons pe_str pa_nil))) (pa_cons (pe_tup (pa_cons pe_int (pa_cons pe_str pa_nil))) (pa_cons (pe_tup (pa_cons pe_int (pa_cons pe_str pa_nil))) (pa_cons (pe_tup (pa_cons pe_int (pa_cons pe_str pa_nil))) (pa_cons (pe_tup (pa_cons pe_int (pa_cons pe_str pa_nil))) pa_nil))))))) pa_nil)))
    (pss_cons (ps_set (i := 6) sc_law_sharing.nd rfl (Or.inl rfl) (pe_lst (pa_cons pe_str (pa_cons pe_str (pa_cons pe_str (pa_cons pe_str (pa_cons pe_str pa_nil)))))))
    (pss_cons (ps_for PassesOwn.never rfl (pi_range2 rfl T.f_range (pa_cons pe_int (pa_cons (pe_op op_add (pv 1) pe_int) pa_nil))) (pg_name (i := 7) sc_law_sharing.nd rfl (Or.inl rfl))
    (pss_cons (ps_set (i := 8) sc_law_sharing.nd rfl (Or.inl rfl) (pe_op op_add_str pe_str (pe_ix ix_list (pv 4) (pe_op op_add pe_int (pv 7)) (fun _ _ => rfl))))
    (pss_cons (ps_for PassesOwn.never rfl (pi_range1 rfl T.f_range (pa_cons pe_int pa_nil)) (pg_name (i := 9) sc_law_sharing.nd rfl (Or.inl rfl))
    (pss_one (ps_if (PW.pt (pw_or (pt_cmpR (op_inD (by have := hr.un; show (A.deeper _).units + 65 < _; omega)) (pe_tup (pa_cons (pv 7) (pa_cons (pe_ix ix_list (pv 6) (pv 9) (fun _ _ => rfl)) pa_nil))) (pe_ix ix_list (pv 5) (pv 1) (fun _ _ => rfl)) (by rfl)) (pw_or1 (PW.pt (pw_and (pt_cmpR op_eq (pe_op op_and (pe_op op_shr (pe_ix ix_list (pv 0) (pe_op op_add pe_int (pv 7)) (fun _ _ => rfl)) (pv 9)) pe_int) pe_int (nomark _)) (pw_and1 (pt_cmpR op_eq (pe_op op_mod (pe_ix ix_list (pv 0) pe_int (fun _ _ => rfl)) pe_int) pe_int (nomark _))))))))
    (pss_one (ps_set (i := 8) sc_law_sharing.nd rfl (Or.inl rfl) (pe_op op_add_str (pe_op op_add_str (pv 8) pe_str) (pe_ix ix_list (pv 6) (pv 9) (fun _ _ => rfl)))))
    pss_nil)))
    (pss_one (ps_asg (pv 8) (pg_sub (pv 4) (pe_op op_add pe_int (pv 7)) set_list))))))
    (pss_one (ps_ret (pe_join pe_str (pv 4)))))))))))))))))
theorem k_law_sharing {P : Program} {w : World} {mg : Str → Option Value} {base : Heap} {e : En} {f : Addr} {fd : FuncData} (T : Txt e mg) (F : FunD e.K "_law_sharing" "_law_sharing" (defArgs s_law_sharing) (defBody s_law_sharing) (defScope s_law_sharing) [] [] f fd) (m : mg "_law_sharing" = some (.ref f)) (hl : ∀ vs H Q E, (sp_law_sharing e) vs H Q E → vs.length = ["t"].length) (hp : ∀ vs H Q E, (sp_law_sharing e) vs H Q E → (t_law_sharing e) { nx := fun _ H' => Q .non H', rt := Q } (start N_law_sharing vs) H) : C8.Cal P w e.K mg base 1 "_law_sharing" (sp_law_sharing e) [] :=
  ⟨f, fd, ["t"], [], (F.ok sc_law_sharing hl (fun cdv A outer s H vs Q E hr h => ⟨t_law_sharing e, PSs.nox (d_law_sharing T hr), hp vs H Q E h⟩)), m, F.kp, (F.bindsN fun _ _ _ _ _ _ us hl => match us, hl with | [_], _ => rfl), .nil⟩
def s_law_table_text : Stmt := top 42
theorem sc_law_table_text : FnScope N_law_table_text ["t"] (defScope s_law_table_text) := ⟨rfl, rfl, rfl, by decide +kernel, rfl, by decide +kernel, by decide +kernel⟩
theorem d_law_table_text {P : Program} {w : World} {mg : Str → Option Value} {base : Heap} {e : En} (T : Txt e mg) {f : Addr} {cdv : Value} {A : Around} {outer : List Env} {s : Shared} {H : Hp} {E : XK} (hr : Room 0 (A.deeper (envOfC "_law_table_text" (defScope s_law_table_text) s.heap.objs.size f cdv))) :
    PSs (cxOf CX0 P w e.K mg base N_law_table_text "_law_table_text" (defScope s_law_table_text) f cdv A outer s H E).nox (defBody s_law_table_text) (t_law_table_text e) := by
    exact (pss_cons (ps_set (i := 1) sc_law_table_text.nd rfl (Or.inl rfl) (pe_op op_add pe_int (pe_op op_mod (pe_ix ix_list (pv 0) pe_int (fun _ _ => rfl)) pe_int)))
    (pss_cons (ps_set (i := 2) sc_law_table_text.nd rfl (Or.inl rfl) (pe_lst (pa_cons (pe_op op_add_str pe_str (pe_callTy call_str_int rfl T.f_str (by decide +kernel) (pa_cons (pe_op op_mod (pe_ix ix_list (pv 0) pe_int (fun _ _ => rfl)) pe_int) pa_nil))) (pa_cons (pe_op op_add_str pe_str (pe_callTy call_str_int rfl T.f_str (by decide +kernel) (pa_cons (pv 1) pa_nil))) (pa_cons (pe_op op_add_str pe_str (pe_callTy call_str_int rfl T.f_str (by decide +kernel) (pa_cons (pe_op op_add pe_int (pe_op op_mod (pe_ix ix_list (pv 0) pe_int (fun _ _ => rfl)) (pv 1))) pa_nil))) (pa_cons (pe_op op_add_str pe_str (pe_callTy call_str_int rfl T.f_str (by decide +kernel) (pa_cons (pe_op op_add pe_int (pe_op op_mod (pe_ix ix_list (pv 0) pe_int (fun _ _ => rfl)) (pv 1))) pa_nil))) pa_nil))))))
    (pss_cons (ps_set (i := 2) sc_law_table_text.nd rfl (Or.inl rfl) (pe_op op_cat (pv 2) (pe_lst (pa_cons (pe_op op_add_str pe_str (pe_callTy call_str_int rfl T.f_str (by decide +kernel) (pa_cons (pe_op op_add pe_int (pe_op op_mod (pe_ix ix_list (pv 0) pe_int (fun _ _ => rfl)) (pv 1))) pa_nil))) (pa_cons (pe_op op_add_str pe_str (pe_ix ix_list (pe_lst (pa_cons pe_str (pa_cons pe_str (pa_cons pe_str (pa_cons pe_str pa_nil))))) (pe_op op_mod (pe_ix ix_list (pv 0) pe_int (fun _ _ => rfl)) pe_int) (fun _ _ => rfl))) pa_nil)))))
    (pss_cons (ps_for PassesOwn.never rfl (pi_range1 rfl T.f_range (pa_cons (pv 1) pa_nil)) (pg_name (i := 3) sc_law_table_text.nd rfl (Or.inl rfl))
    (pss_cons (ps_set (i := 4) sc_law_table_text.nd rfl (Or.inl rfl) (pe_ifExp (pt_cmpR op_eq (pe_op op_mod (pe_op op_fdiv (pe_ix ix_list (pv 0) (pe_op op_add pe_int (pv 3)) (fun _ _ => rfl)) pe_int) pe_int) pe_int (nomark _)) (pe_op op_mod (pe_ix ix_list (pv 0) (pe_op op_add pe_int (pv 3)) (fun _ _ => rfl)) (pe_op op_add (pv 1) pe_int)) pe_int))
    (pss_cons (ps_set (i := 5) sc_law_table_text.nd rfl (Or.inl rfl) (pe_ifExp (pt_cmpR op_eq (pe_op op_mod (pe_op op_fdiv (pe_ix ix_list (pv 0) (pe_op op_add pe_int (pv 3)) (fun _ _ => rfl)) pe_int) pe_int) pe_int (nomark _)) (pe_op op_mod (pe_ix ix_list (pv 0) (pe_op op_add pe_int (pv 3)) (fun _ _ => rfl)) (pe_op op_add (pv 1) pe_int)) pe_int))
    (pss_cons (ps_set (i := 6) sc_law_table_text.nd rfl (Or.inl rfl) (pe_op op_add_str (pe_op op_add_str (pe_op op_add_str (pe_op op_add_str (pe_op op_add_str (pe_op op_add_str (pe_op op_add_str pe_str (pe_callTy call_str_int rfl T.f_str (by decide +kernel) (pa_cons (pe_op op_add (pv 3) pe_int) pa_nil))) pe_str) (pe_callTy call_str_int rfl T.f_str (by decide +kernel) (pa_cons (pv 4) pa_nil))) pe_str) (pe_callTy call_str_int rfl T.f_str (by decide +kernel) (pa_cons (pe_op op_mod (pe_ix ix_list (pv 0) (pe_op op_add pe_int (pv 3)) (fun _ _ => rfl)) (pe_op op_add (pv 1) pe_int)) pa_nil))) pe_str) (pe_callTy call_str_int rfl T.f_str (by decide +kernel) (pa_cons (pv 5) pa_nil))))
    (pss_cons (ps_for PassesOwn.never rfl (pi_range1 rfl T.f_range (pa_cons pe_int pa_nil)) (pg_name (i := 7) sc_law_table_text.nd rfl (Or.inl rfl))
    (pss_one (ps_if (pt_cmpR op_eq (pe_op op_and (pe_op op_shr (pe_ix ix_list (pv 0) (pe_op op_add pe_int (pv 3)) (fun _ _ => rfl)) (pv 7)) pe_int) pe_int (nomark _))
    (pss_one (ps_set (i := 6) sc_law_table_text.nd rfl (Or.inl rfl) (pe_op op_add_str (pe_op op_add_str (pv 6) pe_str) (pe_ix ix_list (pe_lst (pa_cons pe_str (pa_cons pe_str (pa_cons pe_str (pa_cons pe_str (pa_cons pe_str pa_nil)))))) (pv 7) (fun _ _ => rfl)))))
    pss_nil)))
    (pss_one (ps_expr (pe_bm PySem.F.plainAttrs_list PySem.F.slot_list_append PySem.F.type_list_append mt_append (pv 2) (pa_cons (pv 6) pa_nil)))))))))
    (pss_one (ps_ret (pe_join pe_str (pv 2))))))))
theorem k_law_table_text {P : Program} {w : World} {mg : Str → Option Value} {base : Heap} {e : En} {f : Addr} {fd : FuncData} (T : Txt e mg) (F : FunD e.K "_law_table_text" "_law_table_text" (defArgs s_law_table_text) (defBody s_law_table_text) (defScope s_law_table_text) [] [] f fd) (m : mg "_law_table_text" = some (.ref f)) (hl : ∀ vs H Q E, (sp_law_table_text e) vs H Q E → vs.length = ["t"].length) (hp : ∀ vs H Q E, (sp_law_table_text e) vs H Q E → (t_law_table_text e) { nx := fun _ H' => Q .non H', rt := Q } (start N_law_table_text vs) H) : C8.Cal P w e.K mg base 1 "_law_table_text" (sp_law_table_text e) [] :=
  ⟨f, fd, ["t"], [], (F.ok sc_law_table_text hl (fun cdv A outer s H vs Q E hr h => ⟨t_law_table_text e, PSs.nox (d_law_table_text T hr), hp vs H Q E h⟩)), m, F.kp, (F.bindsN fun _ _ _ _ _ _ us hl => match us, hl with | [_], _ => rfl), .nil⟩
def s_law_table : Stmt := top 43
theorem sc_law_table : FnScope N_law_table ["text"] (defScope s_law_table) := ⟨rfl, rfl, rfl, by decide +kernel, rfl, by decide +kernel, by decide +kernel⟩
theorem d_law_table {P : Program} {w : World} {mg : Str → Option Value} {base : Heap} {e : En} (T : Txt e mg) {f : Addr} {cdv : Value} {A : Around} {outer : List Env} {s : Shared} {H : Hp} {E : XK} (hr : Room 0 (A.deeper (envOfC "_law_table" (defScope s_law_table) s.heap.objs.size f cdv))) :
    PSs (cxOf CX0 P w e.K mg base N_law_table "_law_table" (defScope s_law_table) f cdv A outer s H E).nox (defBody s_law_table) (t_law_table e) := by
    have hu := hu_of hr
    exact (pss_cons (ps_setLc (i := 1) (own := [("line", 3)]) (g := (gName 3)) (tt := tYes) rfl sc_law_table.nd rfl rfl (sw_true rfl rfl rfl (by decide +kernel)) (pi_list (pe_split (pv 0) pe_str)) (blkOk_by (own := [("line", 3)]) (N := N_law_table) (sc := defScope s_law_table) (by decide +kernel)) (fun _ _ _ _ _ => (pg_name (i := 3) sc_law_table.nd rfl (Or.inl rfl))) (fun _ _ _ _ _ => pts_nil) (fun _ _ _ _ _ => (pe_split (pv 3) pe_str)))
    (pss_cons (ps_set (i := 2) sc_law_table.nd rfl (Or.inl rfl) (pe_disp (pps_cons pe_str (pe_callTy call_int_str rfl T.f_int (by decide +kernel) (pa_cons (pe_ix ix_list (pe_ix ix_list (pv 1) pe_int (fun _ _ => rfl)) pe_int (fun _ _ => rfl)) pa_nil)) (pps_cons pe_str (pe_callTy call_int_str rfl T.f_int (by decide +kernel) (pa_cons (pe_ix ix_list (pe_ix ix_list (pv 1) pe_int (fun _ _ => rfl)) pe_int (fun _ _ => rfl)) pa_nil)) (pps_cons pe_str (pe_callTy call_int_str rfl T.f_int (by decide +kernel) (pa_cons (pe_ix ix_list (pe_ix ix_list (pv 1) pe_int (fun _ _ => rfl)) pe_int (fun _ _ => rfl)) pa_nil)) (pps_cons pe_str (pe_cmpR op_eq (pe_ix ix_list (pe_ix ix_list (pv 1) pe_int (fun _ _ => rfl)) pe_int (fun _ _ => rfl)) pe_str (nomark _)) pps_nil)))) (by rfl) (by rfl) (fun z => by cases z) (by decide)))
    (pss_cons (ps_dput hu (pv 2) pe_str (pe_op op_cat (pe_lst (pa_cons (pe_tup (pa_cons pe_int (pa_cons pe_int (pa_cons pe_int (pa_cons (pe_lst pa_nil) pa_nil))))) pa_nil)) (pe_lc (own := [("w", 4)]) (g := (gName 4)) (tt := tYes) rfl sc_law_table.nd (pi_list (pe_slice sl_list (pv 1) (po_some pe_int) po_none)) (blkOk_by (own := [("w", 4)]) (N := N_law_table) (sc := defScope s_law_table) (by decide +kernel)) (fun _ _ _ _ _ => (pg_name (i := 4) sc_law_table.nd rfl (Or.inl rfl))) (fun _ _ _ _ _ => pts_nil) (fun _ _ _ _ _ => (pe_tup (pa_cons (pe_callTy call_int_str rfl T.f_int (by decide +kernel) (pa_cons (pe_ix ix_list (pv 4) pe_int (fun _ _ => rfl)) pa_nil)) (pa_cons (pe_callTy call_int_str rfl T.f_int (by decide +kernel) (pa_cons (pe_ix ix_list (pv 4) pe_int (fun _ _ => rfl)) pa_nil)) (pa_cons (pe_callTy call_int_str rfl T.f_int (by decide +kernel) (pa_cons (pe_ix ix_list (pv 4) pe_int (fun _ _ => rfl)) pa_nil)) (pa_cons (pe_slice sl_list (pv 4) (po_some pe_int) po_none) pa_nil)))))))) rfl)
    (pss_one (ps_ret (pv 2))))))
theorem k_law_table {P : Program} {w : World} {mg : Str → Option Value} {base : Heap} {e : En} {f : Addr} {fd : FuncData} (T : Txt e mg) (F : FunD e.K "_law_table" "_law_table" (defArgs s_law_table) (defBody s_law_table) (defScope s_law_table) [] [] f fd) (m : mg "_law_table" = some (.ref f)) (hl : ∀ vs H Q E, (sp_law_table e) vs H Q E → vs.length = ["text"].length) (hp : ∀ vs H Q E, (sp_law_table e) vs H Q E → (t_law_table e) { nx := fun _ H' => Q .non H', rt := Q } (start N_law_table vs) H) : C8.Cal P w e.K mg base 1 "_law_table" (sp_law_table e) [] :=
  ⟨f, fd, ["text"], [], (F.ok sc_law_table hl (fun cdv A outer s H vs Q E hr h => ⟨t_law_table e, PSs.nox (d_law_table T hr), hp vs H Q E h⟩)), m, F.kp, (F.bindsN fun _ _ _ _ _ _ us hl => match us, hl with | [_], _ => rfl), .nil⟩
def s_law_others : Stmt := top 44
theorem sc_law_others : FnScope N_law_others ["p", "line", "c", "clean", "give", "move"] (defScope s_law_others) := ⟨rfl, rfl, rfl, by decide +kernel, rfl, by decide +kernel, by decide +kernel⟩
theorem d_law_others {P : Program} {w : World} {mg : Str → Option Value} {base : Heap} {e : En} (T : Txt e mg) {f : Addr} {cdv : Value} {A : Around} {outer : List Env} {s : Shared} {H : Hp} {E : XK} (hr : Room 0 (A.deeper (envOfC "_law_others" (defScope s_law_others) s.heap.objs.size f cdv))) :
    PSs (cxOf CX0 P w e.K mg base N_law_others "_law_others" (defScope s_law_others) f cdv A outer s H E).nox (defBody s_law_others) (t_law_others e) := by
    have hu := hu_of hr
    exact (pss_cons (ps_set (i := 6) sc_law_others.nd rfl (Or.inl rfl) pe_bl)
    (pss_cons (ps_set (i := 7) sc_law_others.nd rfl (Or.inl rfl) pe_non)
    (pss_cons (ps_for PassesOwn.never rfl (pi_range1 rfl T.f_range (pa_cons (pe_callB call_len_seq rfl T.f_len (by decide +kernel) (pa_cons (pe_ix ix_list (pv 1) pe_int (fun _ _ => rfl)) pa_nil)) pa_nil)) (pg_name (i := 8) sc_law_others.nd rfl (Or.inl rfl))
    (pss_one (ps_if (PW.pt (pw_and (pt_cmpR op_ne (pv 8) (pv 2) (nomark _)) (pw_and1 (pt_cmpR op_gt (pe_ix ix_list (pe_ix ix_list (pv 1) pe_int (fun _ _ => rfl)) (pv 8) (fun _ _ => rfl)) pe_int (nomark _)))))
    (pss_cons (ps_set (i := 6) sc_law_others.nd rfl (Or.inl rfl) pe_bl)
    (pss_cons (ps_set (i := 9) sc_law_others.nd rfl (Or.inl rfl) (pe_ix ix_list (pe_dget hu (pv 0) pe_str (fun _ _ => rfl)) (pe_ix ix_list (pe_ix ix_list (pv 1) pe_int (fun _ _ => rfl)) (pv 8) (fun _ _ => rfl)) (fun _ _ => rfl)))
    (pss_cons (ps_if (pt_cmpR op_in_seq (pv 3) (pe_ix ix_tup (pv 9) pe_int (fun _ _ => rfl)) (by rfl))
    (pss_one (ps_asg (pe_ix ix_list (pe_ix ix_list (pv 1) pe_int (fun _ _ => rfl)) (pv 8) (fun _ _ => rfl)) (pg_sub (pv 1) pe_int set_list)))
    pss_nil)
    (pss_cons (ps_if (PW.pt (pw_and (pt_cmpR op_isN1 (pv 7) pe_non (nomark _)) (pw_and1 (pt_cmpR op_in_seq (pv 4) (pe_ix ix_tup (pv 9) pe_int (fun _ _ => rfl)) (by rfl)))))
    (pss_one (ps_set (i := 7) sc_law_others.nd rfl (Or.inl rfl) (pe_ix ix_list (pe_ix ix_list (pv 1) pe_int (fun _ _ => rfl)) (pv 8) (fun _ _ => rfl))))
    pss_nil)
    (pss_cons (ps_asg (pe_ix ix_tup (pv 9) (pv 5) (fun _ _ => rfl)) (pg_sub (pe_ix ix_list (pv 1) pe_int (fun _ _ => rfl)) (pv 8) set_list))
    (pss_one (ps_if (pt_cmpR op_eq (pe_ix ix_tup (pv 9) (pv 5) (fun _ _ => rfl)) pe_int (nomark _))
    (pss_one (ps_asg pe_int (pg_sub (pe_ix ix_list (pv 1) pe_int (fun _ _ => rfl)) (pv 8) set_list)))
    pss_nil)))))))
    pss_nil)))
    (pss_one (ps_ret (pe_tup (pa_cons (pv 6) (pa_cons (pe_ifExp (pt_cmpR op_isN1 (pv 7) pe_non (nomark _)) (pe_ix ix_list (pv 1) pe_int (fun _ _ => rfl)) (pv 7)) pa_nil))))))))
theorem k_law_others {P : Program} {w : World} {mg : Str → Option Value} {base : Heap} {e : En} {f : Addr} {fd : FuncData} (T : Txt e mg) (F : FunD e.K "_law_others" "_law_others" (defArgs s_law_others) (defBody s_law_others) (defScope s_law_others) [] [] f fd) (m : mg "_law_others" = some (.ref f)) (hl : ∀ vs H Q E, (sp_law_others e) vs H Q E → vs.length = ["p", "line", "c", "clean", "give", "move"].length) (hp : ∀ vs H Q E, (sp_law_others e) vs H Q E → (t_law_others e) { nx := fun _ H' => Q .non H', rt := Q } (start N_law_others vs) H) : C8.Cal P w e.K mg base 1 "_law_others" (sp_law_others e) [] :=
  ⟨f, fd, ["p", "line", "c", "clean", "give", "move"], [], (F.ok sc_law_others hl (fun cdv A outer s H vs Q E hr h => ⟨t_law_others e, PSs.nox (d_law_others T hr), hp vs H Q E h⟩)), m, F.kp, (F.bindsN fun _ _ _ _ _ _ us hl => match us, hl with | [_, _, _, _, _, _], _ => rfl), .nil⟩
def s_law_cache_load : Stmt := top 45
theorem sc_law_cache_load : FnScope N_law_cache_load ["p", "line", "c"] (defScope s_law_cache_load) := ⟨rfl, rfl, rfl, by decide +kernel, rfl, by decide +kernel, by decide +kernel⟩
theorem d_law_cache_load {P : Program} {w : World} {mg : Str → Option Value} {base : Heap} {e : En} (T : Txt e mg) (c_law_others : C8.Cal P w e.K mg base 1 "_law_others" (sp_law_others e) []) {f : Addr} {cdv : Value} {A : Around} {outer : List Env} {s : Shared} {H : Hp} {E : XK} (hr : Room 1 (A.deeper (envOfC "_law_cache_load" (defScope s_law_cache_load) s.heap.objs.size f cdv))) :
    PSs (cxOf CX0 P w e.K mg base N_law_cache_load "_law_cache_load" (defScope s_law_cache_load) f cdv A outer s H E).nox (defBody s_law_cache_load) (t_law_cache_load e) := by
    have hu := hu_of hr
    exact (pss_cons (ps_if (pt_cmpR op_isN1 (pv 0) pe_non (nomark _))
    (pss_one (ps_ret (pe_ix ix_list (pv 1) pe_int (fun _ _ => rfl))))
    pss_nil)
    (pss_cons (ps_if (pt_cmpR op_eq (pe_ix ix_list (pe_ix ix_list (pv 1) pe_int (fun _ _ => rfl)) (pv 2) (fun _ _ => rfl)) pe_int (nomark _))
    (pss_cons (ps_asg (C8.pe_c c_law_others hr (by first | decide | omega) rfl (pa_cons (pv 0) (pa_cons (pv 1) (pa_cons (pv 2) (pa_cons pe_str (pa_cons pe_str (pa_cons pe_int pa_nil))))))) (pg_tup rfl (pgs_cons (pg_name (i := 3) sc_law_cache_load.nd rfl (Or.inl rfl)) (pgs_cons (pg_name (i := 4) sc_law_cache_load.nd rfl (Or.inl rfl)) pgs_nil))))
    (pss_cons (ps_asg (pe_ifExp (pt_val (pv 3)) (pe_dget hu (pv 0) pe_str (fun _ _ => rfl)) (pe_dget hu (pv 0) pe_str (fun _ _ => rfl))) (pg_sub (pe_ix ix_list (pv 1) pe_int (fun _ _ => rfl)) (pv 2) set_list))
    (pss_one (ps_asg (pv 4) (pg_sub (pe_ix ix_list (pv 1) pe_int (fun _ _ => rfl)) (pv 2) set_list)))))
    pss_nil)
    (pss_one (ps_ret (pe_ix ix_list (pe_ix ix_list (pv 1) pe_int (fun _ _ => rfl)) (pv 2) (fun _ _ => rfl))))))
theorem k_law_cache_load {P : Program} {w : World} {mg : Str → Option Value} {base : Heap} {e : En} {f : Addr} {fd : FuncData} (T : Txt e mg) (F : FunD e.K "_law_cache_load" "_law_cache_load" (defArgs s_law_cache_load) (defBody s_law_cache_load) (defScope s_law_cache_load) [] [] f fd) (m : mg "_law_cache_load" = some (.ref f)) (c_law_others : C8.Cal P w e.K mg base 1 "_law_others" (sp_law_others e) []) (hl : ∀ vs H Q E, (sp_law_cache_load e) vs H Q E → vs.length = ["p", "line", "c"].length) (hp : ∀ vs H Q E, (sp_law_cache_load e) vs H Q E → (t_law_cache_load e) { nx := fun _ H' => Q .non H', rt := Q } (start N_law_cache_load vs) H) : C8.Cal P w e.K mg base 2 "_law_cache_load" (sp_law_cache_load e) [] :=
  ⟨f, fd, ["p", "line", "c"], [], (F.ok sc_law_cache_load hl (fun cdv A outer s H vs Q E hr h => ⟨t_law_cache_load e, PSs.nox (d_law_cache_load T c_law_others hr), hp vs H Q E h⟩)), m, F.kp, (F.bindsN fun _ _ _ _ _ _ us hl => match us, hl with | [_, _, _], _ => rfl), .nil⟩
def s_law_cache_store : Stmt := top 46
theorem sc_law_cache_store : FnScope N_law_cache_store ["p", "line", "c", "cover", "laid"] (defScope s_law_cache_store) := ⟨rfl, rfl, rfl, by decide +kernel, rfl, by decide +kernel, by decide +kernel⟩
theorem d_law_cache_store {P : Program} {w : World} {mg : Str → Option Value} {base : Heap} {e : En} (T : Txt e mg) (c_law_merge : C8.Cal P w e.K mg base 1 "_law_merge" (sp_law_merge e) []) (c_law_others : C8.Cal P w e.K mg base 1 "_law_others" (sp_law_others e) []) {f : Addr} {cdv : Value} {A : Around} {outer : List Env} {s : Shared} {H : Hp} {E : XK} (hr : Room 1 (A.deeper (envOfC "_law_cache_store" (defScope s_law_cache_store) s.heap.objs.size f cdv))) :
    PSs (cxOf CX0 P w e.K mg base N_law_cache_store "_law_cache_store" (defScope s_law_cache_store) f cdv A outer s H E).nox (defBody s_law_cache_store) (t_law_cache_store e) := by
    have hu := hu_of hr
    exact (pss_cons (ps_if (pt_cmpR op_isN1 (pv 0) pe_non (nomark _))
    (pss_cons (ps_set (i := 5) sc_law_cache_store.nd rfl (Or.inl rfl) (pe_ix ix_list (pv 1) pe_int (fun _ _ => rfl)))
    (pss_cons (ps_asg (C8.pe_c c_law_merge hr (by first | decide | omega) rfl (pa_cons (pv 5) (pa_cons (pv 4) (pa_cons (pv 3) pa_nil)))) (pg_sub (pv 1) pe_int set_list))
    (pss_one (ps_ret (pv 5)))))
    pss_nil)
    (pss_cons (ps_set (i := 6) sc_law_cache_store.nd rfl (Or.inl rfl) (pe_ix ix_list (pe_ix ix_list (pv 1) pe_int (fun _ _ => rfl)) (pv 2) (fun _ _ => rfl)))
    (pss_cons (ps_if (pt_cmpR op_gt (pe_ix ix_tup (pe_ix ix_list (pe_dget hu (pv 0) pe_str (fun _ _ => rfl)) (pv 6) (fun _ _ => rfl)) pe_int (fun _ _ => rfl)) pe_int (nomark _))
    (pss_one (ps_asg (pe_ix ix_tup (pe_ix ix_list (pe_dget hu (pv 0) pe_str (fun _ _ => rfl)) (pv 6) (fun _ _ => rfl)) pe_int (fun _ _ => rfl)) (pg_sub (pe_ix ix_list (pv 1) pe_int (fun _ _ => rfl)) (pv 2) set_list)))
    (pss_cons (ps_asg (C8.pe_c c_law_others hr (by first | decide | omega) rfl (pa_cons (pv 0) (pa_cons (pv 1) (pa_cons (pv 2) (pa_cons pe_str (pa_cons pe_str (pa_cons pe_int pa_nil))))))) (pg_tup rfl (pgs_cons (pg_name (i := 7) sc_law_cache_store.nd rfl (Or.inl rfl)) (pgs_cons (pg_name (i := 8) sc_law_cache_store.nd rfl (Or.inl rfl)) pgs_nil))))
    (pss_cons (ps_if (pt_cmpR op_eq (pv 6) pe_int (nomark _))
    (pss_one (ps_asg (pv 8) (pg_sub (pe_ix ix_list (pv 1) pe_int (fun _ _ => rfl)) (pv 2) set_list)))
    pss_nil)
    (pss_one (ps_asg (pe_dget hu (pv 0) pe_str (fun _ _ => rfl)) (pg_sub (pe_ix ix_list (pv 1) pe_int (fun _ _ => rfl)) (pv 2) set_list))))))
    (pss_cons (ps_set (i := 5) sc_law_cache_store.nd rfl (Or.inl rfl) (pe_ix ix_list (pe_ix ix_list (pv 1) pe_int (fun _ _ => rfl)) (pv 2) (fun _ _ => rfl)))
    (pss_cons (ps_asg (C8.pe_c c_law_merge hr (by first | decide | omega) rfl (pa_cons (pv 5) (pa_cons (pv 4) (pa_cons (pv 3) pa_nil)))) (pg_sub (pe_ix ix_list (pv 1) pe_int (fun _ _ => rfl)) (pv 2) set_list))
    (pss_cons (ps_if (pt_val (pe_dget hu (pv 0) pe_str (fun _ _ => rfl)))
    (pss_one (ps_asg (pe_ix ix_list (pe_ix ix_list (pv 1) pe_int (fun _ _ => rfl)) (pv 2) (fun _ _ => rfl)) (pg_sub (pv 1) pe_int set_list)))
    pss_nil)
    (pss_one (ps_ret (pv 5)))))))))
theorem k_law_cache_store {P : Program} {w : World} {mg : Str → Option Value} {base : Heap} {e : En} {f : Addr} {fd : FuncData} (T : Txt e mg) (F : FunD e.K "_law_cache_store" "_law_cache_store" (defArgs s_law_cache_store) (defBody s_law_cache_store) (defScope s_law_cache_store) [] [] f fd) (m : mg "_law_cache_store" = some (.ref f)) (c_law_merge : C8.Cal P w e.K mg base 1 "_law_merge" (sp_law_merge e) []) (c_law_others : C8.Cal P w e.K mg base 1 "_law_others" (sp_law_others e) []) (hl : ∀ vs H Q E, (sp_law_cache_store e) vs H Q E → vs.length = ["p", "line", "c", "cover", "laid"].length) (hp : ∀ vs H Q E, (sp_law_cache_store e) vs H Q E → (t_law_cache_store e) { nx := fun _ H' => Q .non H', rt := Q } (start N_law_cache_store vs) H) : C8.Cal P w e.K mg base 2 "_law_cache_store" (sp_law_cache_store e) [] :=
  ⟨f, fd, ["p", "line", "c", "cover", "laid"], [], (F.ok sc_law_cache_store hl (fun cdv A outer s H vs Q E hr h => ⟨t_law_cache_store e, PSs.nox (d_law_cache_store T c_law_merge c_law_others hr), hp vs H Q E h⟩)), m, F.kp, (F.bindsN fun _ _ _ _ _ _ us hl => match us, hl with | [_, _, _, _, _], _ => rfl), .nil⟩
def s_law_cache_leave : Stmt := top 47
theorem sc_law_cache_leave : FnScope N_law_cache_leave ["p", "line", "c"] (defScope s_law_cache_leave) := ⟨rfl, rfl, rfl, by decide +kernel, rfl, by decide +kernel, by decide +kernel⟩
theorem d_law_cache_leave {P : Program} {w : World} {mg : Str → Option Value} {base : Heap} {e : En} (T : Txt e mg) {f : Addr} {cdv : Value} {A : Around} {outer : List Env} {s : Shared} {H : Hp} {E : XK} (hr : Room 0 (A.deeper (envOfC "_law_cache_leave" (defScope s_law_cache_leave) s.heap.objs.size f cdv))) :
    PSs (cxOf CX0 P w e.K mg base N_law_cache_leave "_law_cache_leave" (defScope s_law_cache_leave) f cdv A outer s H E).nox (defBody s_law_cache_leave) (t_law_cache_leave e) := by
    have hu := hu_of hr
    exact (pss_cons (ps_if (PW.pt (pw_and (pt_cmpR op_notN1 (pv 0) pe_non (nomark _)) (pw_and1 (pt_cmpR op_in_seq pe_str (pe_ix ix_tup (pe_ix ix_list (pe_dget hu (pv 0) pe_str (fun _ _ => rfl)) (pe_ix ix_list (pe_ix ix_list (pv 1) pe_int (fun _ _ => rfl)) (pv 2) (fun _ _ => rfl)) (fun _ _ => rfl)) pe_int (fun _ _ => rfl)) (by rfl)))))
    (pss_one (ps_asg (pe_ix ix_list (pe_ix ix_list (pv 1) pe_int (fun _ _ => rfl)) (pv 2) (fun _ _ => rfl)) (pg_sub (pv 1) pe_int set_list)))
    pss_nil)
    (pss_cons (ps_asg pe_int (pg_sub (pe_ix ix_list (pv 1) pe_int (fun _ _ => rfl)) (pv 2) set_list))
    (pss_one (ps_asg pe_int (pg_sub (pe_ix ix_list (pv 1) pe_int (fun _ _ => rfl)) (pv 2) set_list)))))
theorem k_law_cache_leave {P : Program} {w : World} {mg : Str → Option Value} {base : Heap} {e : En} {f : Addr} {fd : FuncData} (T : Txt e mg) (F : FunD e.K "_law_cache_leave" "_law_cache_leave" (defArgs s_law_cache_leave) (defBody s_law_cache_leave) (defScope s_law_cache_leave) [] [] f fd) (m : mg "_law_cache_leave" = some (.ref f)) (hl : ∀ vs H Q E, (sp_law_cache_leave e) vs H Q E → vs.length = ["p", "line", "c"].length) (hp : ∀ vs H Q E, (sp_law_cache_leave e) vs H Q E → (t_law_cache_leave e) { nx := fun _ H' => Q .non H', rt := Q } (start N_law_cache_leave vs) H) : C8.Cal P w e.K mg base 1 "_law_cache_leave" (sp_law_cache_leave e) [] :=
  ⟨f, fd, ["p", "line", "c"], [], (F.ok sc_law_cache_leave hl (fun cdv A outer s H vs Q E hr h => ⟨t_law_cache_leave e, PSs.nox (d_law_cache_leave T hr), hp vs H Q E h⟩)), m, F.kp, (F.bindsN fun _ _ _ _ _ _ us hl => match us, hl with | [_, _, _], _ => rfl), .nil⟩
def s_law_lines : Stmt := top 48
theorem sc_law_lines : FnScope N_law_lines ["memory", "count"] (defScope s_law_lines) := ⟨rfl, rfl, rfl, by decide +kernel, rfl, by decide +kernel, by decide +kernel⟩
theorem d_law_lines {P : Program} {w : World} {mg : Str → Option Value} {base : Heap} {e : En} (T : Txt e mg) {f : Addr} {cdv : Value} {A : Around} {outer : List Env} {s : Shared} {H : Hp} {E : XK} (hr : Room 0 (A.deeper (envOfC "_law_lines" (defScope s_law_lines) s.heap.objs.size f cdv))) :
    PSs (cxOf CX0 P w e.K mg base N_law_lines "_law_lines" (defScope s_law_lines) f cdv A outer s H E).nox (defBody s_law_lines) (t_law_lines e) := by
    exact (pss_one (ps_ret (pe_lc (own := [("word", 2)]) (g := (gName 2)) (tt := tYes) rfl sc_law_lines.nd (pi_list (pv 0)) (blkOk_by (own := [("word", 2)]) (N := N_law_lines) (sc := defScope s_law_lines) (by decide +kernel)) (fun _ _ _ _ _ => (pg_name (i := 2) sc_law_lines.nd rfl (Or.inl rfl))) (fun _ _ _ _ _ => pts_nil) (fun _ _ _ _ _ => (pe_lst (pa_cons (pe_op op_rep (pe_lst (pa_cons pe_int pa_nil)) (pv 1)) (pa_cons (pe_op op_rep (pe_lst (pa_cons pe_int pa_nil)) (pv 1)) (pa_cons (pv 2) pa_nil))))))))
theorem k_law_lines {P : Program} {w : World} {mg : Str → Option Value} {base : Heap} {e : En} {f : Addr} {fd : FuncData} (T : Txt e mg) (F : FunD e.K "_law_lines" "_law_lines" (defArgs s_law_lines) (defBody s_law_lines) (defScope s_law_lines) [] [] f fd) (m : mg "_law_lines" = some (.ref f)) (hl : ∀ vs H Q E, (sp_law_lines e) vs H Q E → vs.length = ["memory", "count"].length) (hp : ∀ vs H Q E, (sp_law_lines e) vs H Q E → (t_law_lines e) { nx := fun _ H' => Q .non H', rt := Q } (start N_law_lines vs) H) : C8.Cal P w e.K mg base 1 "_law_lines" (sp_law_lines e) [] :=
  ⟨f, fd, ["memory", "count"], [], (F.ok sc_law_lines hl (fun cdv A outer s H vs Q E hr h => ⟨t_law_lines e, PSs.nox (d_law_lines T hr), hp vs H Q E h⟩)), m, F.kp, (F.bindsN fun _ _ _ _ _ _ us hl => match us, hl with | [_, _], _ => rfl), .nil⟩
def s_law_told_caches : Stmt := top 49
theorem sc_law_told_caches : FnScope N_law_told_caches ["lines", "count"] (defScope s_law_told_caches) := ⟨rfl, rfl, rfl, by decide +kernel, rfl, by decide +kernel, by decide +kernel⟩
theorem d_law_told_caches {P : Program} {w : World} {mg : Str → Option Value} {base : Heap} {e : En} (T : Txt e mg) {f : Addr} {cdv : Value} {A : Around} {outer : List Env} {s : Shared} {H : Hp} {E : XK} (hr : Room 0 (A.deeper (envOfC "_law_told_caches" (defScope s_law_told_caches) s.heap.objs.size f cdv))) :
    PSs (cxOf CX0 P w e.K mg base N_law_told_caches "_law_told_caches" (defScope s_law_told_caches) f cdv A outer s H E).nox (defBody s_law_told_caches) (t_law_told_caches e) := by
    exact (pss_cons (ps_setLc (i := 2) (own := [("n", 3)]) (g := (gName 3)) (tt := tYes) rfl sc_law_told_caches.nd rfl rfl (sw_true rfl rfl rfl (by decide +kernel)) (pi_range1 rfl T.f_range (pa_cons (pv 1) pa_nil)) (blkOk_by (own := [("n", 3)]) (N := N_law_told_caches) (sc := defScope s_law_told_caches) (by decide +kernel)) (fun _ _ _ _ _ => (pg_name (i := 3) sc_law_told_caches.nd rfl (Or.inr rfl))) (fun _ _ _ _ _ => pts_nil) (fun _ _ _ _ _ => (pe_callTy call_tuple_of rfl T.f_tuple (by decide +kernel) (pa_cons (pe_lc (own := [("line", 4)]) (g := (gName 4)) (tt := tYes) rfl sc_law_told_caches.nd (pi_list (pv 0)) (blkOk_by (own := [("line", 4)]) (N := N_law_told_caches) (by rfl)) (fun _ _ _ _ _ => (pg_name (i := 4) sc_law_told_caches.nd rfl (Or.inl rfl))) (fun _ _ _ _ _ => pts_nil) (fun _ _ _ _ _ => (pe_tup (pa_cons (pe_ix ix_list (pe_ix ix_list (pv 4) pe_int (fun _ _ => rfl)) (pv 3) (fun _ _ => rfl)) (pa_cons (pe_ix ix_list (pe_ix ix_list (pv 4) pe_int (fun _ _ => rfl)) (pv 3) (fun _ _ => rfl)) pa_nil))))) pa_nil))))
    (pss_one (ps_ret (pe_tup (pa_cons (pe_callTy call_tuple_of rfl T.f_tuple (by decide +kernel) (pa_cons (pe_lc (own := [("line", 4)]) (g := (gName 4)) (tt := tYes) rfl sc_law_told_caches.nd (pi_list (pv 0)) (blkOk_by (own := [("line", 4)]) (N := N_law_told_caches) (sc := defScope s_law_told_caches) (by decide +kernel)) (fun _ _ _ _ _ => (pg_name (i := 4) sc_law_told_caches.nd rfl (Or.inl rfl))) (fun _ _ _ _ _ => pts_nil) (fun _ _ _ _ _ => (pe_ix ix_list (pv 4) pe_int (fun _ _ => rfl)))) pa_nil)) (pa_cons (pe_callTy call_tuple_of rfl T.f_tuple (by decide +kernel) (pa_cons (pv 2) pa_nil)) pa_nil))))))
theorem k_law_told_caches {P : Program} {w : World} {mg : Str → Option Value} {base : Heap} {e : En} {f : Addr} {fd : FuncData} (T : Txt e mg) (F : FunD e.K "_law_told_caches" "_law_told_caches" (defArgs s_law_told_caches) (defBody s_law_told_caches) (defScope s_law_told_caches) [] [] f fd) (m : mg "_law_told_caches" = some (.ref f)) (hl : ∀ vs H Q E, (sp_law_told_caches e) vs H Q E → vs.length = ["lines", "count"].length) (hp : ∀ vs H Q E, (sp_law_told_caches e) vs H Q E → (t_law_told_caches e) { nx := fun _ H' => Q .non H', rt := Q } (start N_law_told_caches vs) H) : C8.Cal P w e.K mg base 1 "_law_told_caches" (sp_law_told_caches e) [] :=
  ⟨f, fd, ["lines", "count"], [], (F.ok sc_law_told_caches hl (fun cdv A outer s H vs Q E hr h => ⟨t_law_told_caches e, PSs.nox (d_law_told_caches T hr), hp vs H Q E h⟩)), m, F.kp, (F.bindsN fun _ _ _ _ _ _ us hl => match us, hl with | [_, _], _ => rfl), .nil⟩
def s_law_emptied : Stmt := top 50
theorem sc_law_emptied : FnScope N_law_emptied ["p", "lines", "count"] (defScope s_law_emptied) := ⟨rfl, rfl, rfl, by decide +kernel, rfl, by decide +kernel, by decide +kernel⟩
theorem d_law_emptied {P : Program} {w : World} {mg : Str → Option Value} {base : Heap} {e : En} (T : Txt e mg) (c_law_cache_leave : C8.Cal P w e.K mg base 1 "_law_cache_leave" (sp_law_cache_leave e) []) {f : Addr} {cdv : Value} {A : Around} {outer : List Env} {s : Shared} {H : Hp} {E : XK} (hr : Room 1 (A.deeper (envOfC "_law_emptied" (defScope s_law_emptied) s.heap.objs.size f cdv))) :
    PSs (cxOf CX0 P w e.K mg base N_law_emptied "_law_emptied" (defScope s_law_emptied) f cdv A outer s H E).nox (defBody s_law_emptied) (t_law_emptied e) := by
    exact (pss_cons (ps_set (i := 3) sc_law_emptied.nd rfl (Or.inl rfl) (pe_lst pa_nil))
    (pss_cons (ps_for PassesOwn.never rfl (pi_list (pv 1)) (pg_name (i := 4) sc_law_emptied.nd rfl (Or.inl rfl))
    (pss_cons (ps_set (i := 5) sc_law_emptied.nd rfl (Or.inl rfl) (pe_lst (pa_cons (pe_callTy call_list_of rfl T.f_list (by decide +kernel) (pa_cons (pe_ix ix_list (pv 4) pe_int (fun _ _ => rfl)) pa_nil)) (pa_cons (pe_callTy call_list_of rfl T.f_list (by decide +kernel) (pa_cons (pe_ix ix_list (pv 4) pe_int (fun _ _ => rfl)) pa_nil)) (pa_cons (pe_ix ix_list (pv 4) pe_int (fun _ _ => rfl)) pa_nil)))))
    (pss_cons (ps_for PassesOwn.never rfl (pi_range1 rfl T.f_range (pa_cons (pv 2) pa_nil)) (pg_name (i := 6) sc_law_emptied.nd rfl (Or.inl rfl))
    (pss_one (ps_if (pt_cmpR op_gt (pe_ix ix_list (pe_ix ix_list (pv 5) pe_int (fun _ _ => rfl)) (pv 6) (fun _ _ => rfl)) pe_int (nomark _))
    (pss_one (ps_expr (C8.pe_c c_law_cache_leave hr (by first | decide | omega) rfl (pa_cons (pv 0) (pa_cons (pv 5) (pa_cons (pv 6) pa_nil))))))
    pss_nil)))
    (pss_one (ps_expr (pe_bm PySem.F.plainAttrs_list PySem.F.slot_list_append PySem.F.type_list_append mt_append (pv 3) (pa_cons (pe_ix ix_list (pv 5) pe_int (fun _ _ => rfl)) pa_nil)))))))
    (pss_one (ps_ret (pe_callTy call_tuple_of rfl T.f_tuple (by decide +kernel) (pa_cons (pv 3) pa_nil))))))
theorem k_law_emptied {P : Program} {w : World} {mg : Str → Option Value} {base : Heap} {e : En} {f : Addr} {fd : FuncData} (T : Txt e mg) (F : FunD e.K "_law_emptied" "_law_emptied" (defArgs s_law_emptied) (defBody s_law_emptied) (defScope s_law_emptied) [] [] f fd) (m : mg "_law_emptied" = some (.ref f)) (c_law_cache_leave : C8.Cal P w e.K mg base 1 "_law_cache_leave" (sp_law_cache_leave e) []) (hl : ∀ vs H Q E, (sp_law_emptied e) vs H Q E → vs.length = ["p", "lines", "count"].length) (hp : ∀ vs H Q E, (sp_law_emptied e) vs H Q E → (t_law_emptied e) { nx := fun _ H' => Q .non H', rt := Q } (start N_law_emptied vs) H) : C8.Cal P w e.K mg base 2 "_law_emptied" (sp_law_emptied e) [] :=
  ⟨f, fd, ["p", "lines", "count"], [], (F.ok sc_law_emptied hl (fun cdv A outer s H vs Q E hr h => ⟨t_law_emptied e, PSs.nox (d_law_emptied T c_law_cache_leave hr), hp vs H Q E h⟩)), m, F.kp, (F.bindsN fun _ _ _ _ _ _ us hl => match us, hl with | [_, _, _], _ => rfl), .nil⟩
def s_law_protocol : Stmt := top 51
theorem sc_law_protocol : FnScope N_law_protocol ["cell"] (defScope s_law_protocol) := ⟨rfl, rfl, rfl, by decide +kernel, rfl, by decide +kernel, by decide +kernel⟩
theorem d_law_protocol {P : Program} {w : World} {mg : Str → Option Value} {base : Heap} {e : En} (T : Txt e mg) (c_law_draws : C8.Cal P w e.K mg base 2 "_law_draws" (sp_law_draws e) []) (c_law_table_text : C8.Cal P w e.K mg base 1 "_law_table_text" (sp_law_table_text e) []) (c_law_sharing : C8.Cal P w e.K mg base 1 "_law_sharing" (sp_law_sharing e) []) {f : Addr} {cdv : Value} {A : Around} {outer : List Env} {s : Shared} {H : Hp} {E : XK} (hr : Room 2 (A.deeper (envOfC "_law_protocol" (defScope s_law_protocol) s.heap.objs.size f cdv))) :
    PSs (cxOf CX0 P w e.K mg base N_law_protocol "_law_protocol" (defScope s_law_protocol) f cdv A outer s H E).nox (defBody s_law_protocol) (t_law_protocol e) := by
    exact (pss_cons (ps_set (i := 1) sc_law_protocol.nd rfl (Or.inl rfl) (C8.pe_c c_law_draws hr (by first | decide | omega) rfl (pa_cons (pv 0) (pa_cons pe_int (pa_cons pe_int pa_nil)))))
    (pss_cons (ps_set (i := 2) sc_law_protocol.nd rfl (Or.inl rfl) (pe_op op_mod (pe_callTy call_int1 rfl T.f_int (by decide +kernel) (pa_cons (pe_ix ix_list (pv 1) pe_int (fun _ _ => rfl)) pa_nil)) pe_int))
    (pss_cons (ps_if (pt_cmpR op_eq (pv 2) pe_int (nomark _))
    (pss_one (ps_ret pe_non))
    pss_nil)
    (pss_one (ps_ret (pe_ifExp (pt_cmpR op_lt (pv 2) pe_int (nomark _)) (C8.pe_c c_law_table_text hr (by first | decide | omega) rfl (pa_cons (pe_slice sl_list (pv 1) (po_some pe_int) po_none) pa_nil)) (C8.pe_c c_law_sharing hr (by first | decide | omega) rfl (pa_cons (pe_slice sl_list (pv 1) (po_some pe_int) po_none) pa_nil))))))))
theorem k_law_protocol {P : Program} {w : World} {mg : Str → Option Value} {base : Heap} {e : En} {f : Addr} {fd : FuncData} (T : Txt e mg) (F : FunD e.K "_law_protocol" "_law_protocol" (defArgs s_law_protocol) (defBody s_law_protocol) (defScope s_law_protocol) [] [] f fd) (m : mg "_law_protocol" = some (.ref f)) (c_law_draws : C8.Cal P w e.K mg base 2 "_law_draws" (sp_law_draws e) []) (c_law_table_text : C8.Cal P w e.K mg base 1 "_law_table_text" (sp_law_table_text e) []) (c_law_sharing : C8.Cal P w e.K mg base 1 "_law_sharing" (sp_law_sharing e) []) (hl : ∀ vs H Q E, (sp_law_protocol e) vs H Q E → vs.length = ["cell"].length) (hp : ∀ vs H Q E, (sp_law_protocol e) vs H Q E → (t_law_protocol e) { nx := fun _ H' => Q .non H', rt := Q } (start N_law_protocol vs) H) : C8.Cal P w e.K mg base 3 "_law_protocol" (sp_law_protocol e) [] :=
  ⟨f, fd, ["cell"], [], (F.ok sc_law_protocol hl (fun cdv A outer s H vs Q E hr h => ⟨t_law_protocol e, PSs.nox (d_law_protocol T c_law_draws c_law_table_text c_law_sharing hr), hp vs H Q E h⟩)), m, F.kp, (F.bindsN fun _ _ _ _ _ _ us hl => match us, hl with | [_], _ => rfl), .nil⟩
def s_law_accesses : Stmt := top 52
theorem sc_law_accesses : FnScope N_law_accesses ["cell", "many", "names", "words"] (defScope s_law_accesses) := ⟨rfl, rfl, rfl, by decide +kernel, rfl, by decide +kernel, by decide +kernel⟩
theorem d_law_accesses {P : Program} {w : World} {mg : Str → Option Value} {base : Heap} {e : En} (T : Txt e mg) (c_law_draws : C8.Cal P w e.K mg base 2 "_law_draws" (sp_law_draws e) []) (c_law_value : C8.Cal P w e.K mg base 1 "_law_value" (sp_law_value e) []) {f : Addr} {cdv : Value} {A : Around} {outer : List Env} {s : Shared} {H : Hp} {E : XK} (hr : Room 2 (A.deeper (envOfC "_law_accesses" (defScope s_law_accesses) s.heap.objs.size f cdv))) :
    PSs (cxOf CX0 P w e.K mg base N_law_accesses "_law_accesses" (defScope s_law_accesses) f cdv A outer s H E).nox (defBody s_law_accesses) (t_law_accesses e) := by
    exact (pss_cons (ps_set (i := 4) sc_law_accesses.nd rfl (Or.inl rfl) (C8.pe_c c_law_draws hr (by first | decide | omega) rfl (pa_cons (pv 0) (pa_cons (pe_op op_mul pe_int (pv 1)) (pa_cons (pe_op op_shl pe_int pe_int) pa_nil)))))
    (pss_cons (ps_set (i := 5) sc_law_accesses.nd rfl (Or.inl rfl) (pe_lst pa_nil))
    (pss_cons (ps_for PassesOwn.never rfl (pi_range1 rfl T.f_range (pa_cons (pv 1) pa_nil)) (pg_name (i := 6) sc_law_accesses.nd rfl (Or.inl rfl))
    (pss_cons (ps_set (i := 7) sc_law_accesses.nd rfl (Or.inl rfl) (pe_ix ix_list (pv 4) (pe_op op_mul pe_int (pv 6)) (fun _ _ => rfl)))
    (pss_cons (ps_set (i := 8) sc_law_accesses.nd rfl (Or.inl rfl) (pe_ix ix_list (pe_lst (pa_cons pe_str (pa_cons pe_str (pa_cons pe_str (pa_cons pe_str (pa_cons pe_str (pa_cons pe_str (pa_cons pe_str (pa_cons pe_str pa_nil))))))))) (pe_op op_mod (pe_callTy call_int1 rfl T.f_int (by decide +kernel) (pa_cons (pv 7) pa_nil)) pe_int) (fun _ _ => rfl)))
    (pss_one (ps_expr (pe_bm PySem.F.plainAttrs_list PySem.F.slot_list_append PySem.F.type_list_append mt_append (pv 5) (pa_cons (pe_tup (pa_cons (pv 8) (pa_cons (pe_ix ix_list (pv 2) (pe_op op_mod (pe_callTy call_int1 rfl T.f_int (by decide +kernel) (pa_cons (pe_op op_fdiv (pv 7) pe_int) pa_nil)) (pe_callB call_len_seq rfl T.f_len (by decide +kernel) (pa_cons (pv 2) pa_nil))) (fun _ _ => rfl)) (pa_cons (pe_op op_mod (pe_callTy call_int1 rfl T.f_int (by decide +kernel) (pa_cons (pe_op op_fdiv (pv 7) pe_int) pa_nil)) (pv 3)) (pa_cons (pe_op op_mod (pe_callTy call_int1 rfl T.f_int (by decide +kernel) (pa_cons (pe_op op_fdiv (pv 7) pe_int) pa_nil)) pe_int) (pa_cons (C8.pe_c c_law_value hr (by first | decide | omega) rfl (pa_cons (pe_ix ix_list (pv 4) (pe_op op_add (pe_op op_mul pe_int (pv 6)) pe_int) (fun _ _ => rfl)) (pa_cons (pe_op op_shl pe_int pe_int) pa_nil))) pa_nil)))))) pa_nil)))))))
    (pss_one (ps_ret (pv 5))))))
theorem k_law_accesses {P : Program} {w : World} {mg : Str → Option Value} {base : Heap} {e : En} {f : Addr} {fd : FuncData} (T : Txt e mg) (F : FunD e.K "_law_accesses" "_law_accesses" (defArgs s_law_accesses) (defBody s_law_accesses) (defScope s_law_accesses) [] [] f fd) (m : mg "_law_accesses" = some (.ref f)) (c_law_draws : C8.Cal P w e.K mg base 2 "_law_draws" (sp_law_draws e) []) (c_law_value : C8.Cal P w e.K mg base 1 "_law_value" (sp_law_value e) []) (hl : ∀ vs H Q E, (sp_law_accesses e) vs H Q E → vs.length = ["cell", "many", "names", "words"].length) (hp : ∀ vs H Q E, (sp_law_accesses e) vs H Q E → (t_law_accesses e) { nx := fun _ H' => Q .non H', rt := Q } (start N_law_accesses vs) H) : C8.Cal P w e.K mg base 3 "_law_accesses" (sp_law_accesses e) [] :=
  ⟨f, fd, ["cell", "many", "names", "words"], [], (F.ok sc_law_accesses hl (fun cdv A outer s H vs Q E hr h => ⟨t_law_accesses e, PSs.nox (d_law_accesses T c_law_draws c_law_value hr), hp vs H Q E h⟩)), m, F.kp, (F.bindsN fun _ _ _ _ _ _ us hl => match us, hl with | [_, _, _, _], _ => rfl), .nil⟩
def s_law_answer : Stmt := top 53
theorem sc_law_answer : FnScope N_law_answer ["caches", "a", "word"] (defScope s_law_answer) := ⟨rfl, rfl, rfl, by decide +kernel, rfl, by decide +kernel, by decide +kernel⟩
theorem d_law_answer {P : Program} {w : World} {mg : Str → Option Value} {base : Heap} {e : En} (T : Txt e mg) (c_Caches_load : C8.Met P w e.K mg base 2 e.Caches "load" (sp_Caches_load e) []) (c_Caches_store : C8.Met P w e.K mg base 3 e.Caches "store" (sp_Caches_store e) []) (c_Caches_leave : C8.Met P w e.K mg base 2 e.Caches "leave" (sp_Caches_leave e) []) {f : Addr} {cdv : Value} {A : Around} {outer : List Env} {s : Shared} {H : Hp} {E : XK} (hr : Room 3 (A.deeper (envOfC "_law_answer" (defScope s_law_answer) s.heap.objs.size f cdv))) :
    PSs (cxOf CX0 P w e.K mg base N_law_answer "_law_answer" (defScope s_law_answer) f cdv A outer s H E).nox (defBody s_law_answer) (t_law_answer e) := by
    exact (pss_cons (ps_if (pt_cmpR op_eq (pe_ix ix_tup (pv 1) pe_int (fun _ _ => rfl)) pe_str (nomark _))
    (pss_one (ps_ret (C8.pe_mt c_Caches_load hr (by decide) (pv 0) (pa_cons (pe_ix ix_tup (pv 1) pe_int (fun _ _ => rfl)) (pa_cons (pv 2) pa_nil)))))
    pss_nil)
    (pss_cons (ps_if (pt_cmpR op_eq (pe_ix ix_tup (pv 1) pe_int (fun _ _ => rfl)) pe_str (nomark _))
    (pss_one (ps_ret (C8.pe_mt c_Caches_store hr (by decide) (pv 0) (pa_cons (pe_ix ix_tup (pv 1) pe_int (fun _ _ => rfl)) (pa_cons (pv 2) (pa_cons (pe_ix ix_tup (pv 1) pe_int (fun _ _ => rfl)) (pa_cons (pe_ix ix_tup (pv 1) pe_int (fun _ _ => rfl)) pa_nil)))))))
    pss_nil)
    (pss_one (ps_ret (C8.pe_mt c_Caches_leave hr (by decide) (pv 0) (pa_cons (pe_ix ix_tup (pv 1) pe_int (fun _ _ => rfl)) (pa_cons (pv 2) pa_nil)))))))
theorem k_law_answer {P : Program} {w : World} {mg : Str → Option Value} {base : Heap} {e : En} {f : Addr} {fd : FuncData} (T : Txt e mg) (F : FunD e.K "_law_answer" "_law_answer" (defArgs s_law_answer) (defBody s_law_answer) (defScope s_law_answer) [] [] f fd) (m : mg "_law_answer" = some (.ref f)) (c_Caches_load : C8.Met P w e.K mg base 2 e.Caches "load" (sp_Caches_load e) []) (c_Caches_store : C8.Met P w e.K mg base 3 e.Caches "store" (sp_Caches_store e) []) (c_Caches_leave : C8.Met P w e.K mg base 2 e.Caches "leave" (sp_Caches_leave e) []) (hl : ∀ vs H Q E, (sp_law_answer e) vs H Q E → vs.length = ["caches", "a", "word"].length) (hp : ∀ vs H Q E, (sp_law_answer e) vs H Q E → (t_law_answer e) { nx := fun _ H' => Q .non H', rt := Q } (start N_law_answer vs) H) : C8.Cal P w e.K mg base 4 "_law_answer" (sp_law_answer e) [] :=
  ⟨f, fd, ["caches", "a", "word"], [], (F.ok sc_law_answer hl (fun cdv A outer s H vs Q E hr h => ⟨t_law_answer e, PSs.nox (d_law_answer T c_Caches_load c_Caches_store c_Caches_leave hr), hp vs H Q E h⟩)), m, F.kp, (F.bindsN fun _ _ _ _ _ _ us hl => match us, hl with | [_, _, _], _ => rfl), .nil⟩
def s_law_own : Stmt := top 54
theorem sc_law_own : FnScope N_law_own ["p", "line", "a"] (defScope s_law_own) := ⟨rfl, rfl, rfl, by decide +kernel, rfl, by decide +kernel, by decide +kernel⟩
theorem d_law_own {P : Program} {w : World} {mg : Str → Option Value} {base : Heap} {e : En} (T : Txt e mg) (c_law_cache_load : C8.Cal P w e.K mg base 2 "_law_cache_load" (sp_law_cache_load e) []) (c_law_cache_store : C8.Cal P w e.K mg base 2 "_law_cache_store" (sp_law_cache_store e) []) (c_law_cache_leave : C8.Cal P w e.K mg base 1 "_law_cache_leave" (sp_law_cache_leave e) []) {f : Addr} {cdv : Value} {A : Around} {outer : List Env} {s : Shared} {H : Hp} {E : XK} (hr : Room 2 (A.deeper (envOfC "_law_own" (defScope s_law_own) s.heap.objs.size f cdv))) :
    PSs (cxOf CX0 P w e.K mg base N_law_own "_law_own" (defScope s_law_own) f cdv A outer s H E).nox (defBody s_law_own) (t_law_own e) := by
    exact (pss_cons (ps_if (pt_cmpR op_eq (pe_ix ix_tup (pv 2) pe_int (fun _ _ => rfl)) pe_str (nomark _))
    (pss_one (ps_ret (C8.pe_c c_law_cache_load hr (by first | decide | omega) rfl (pa_cons (pv 0) (pa_cons (pv 1) (pa_cons (pe_ix ix_tup (pv 2) pe_int (fun _ _ => rfl)) pa_nil))))))
    pss_nil)
    (pss_cons (ps_if (pt_cmpR op_eq (pe_ix ix_tup (pv 2) pe_int (fun _ _ => rfl)) pe_str (nomark _))
    (pss_one (ps_ret (C8.pe_c c_law_cache_store hr (by first | decide | omega) rfl (pa_cons (pv 0) (pa_cons (pv 1) (pa_cons (pe_ix ix_tup (pv 2) pe_int (fun _ _ => rfl)) (pa_cons (pe_ix ix_tup (pv 2) pe_int (fun _ _ => rfl)) (pa_cons (pe_ix ix_tup (pv 2) pe_int (fun _ _ => rfl)) pa_nil))))))))
    pss_nil)
    (pss_one (ps_ret (C8.pe_c c_law_cache_leave hr (by first | decide | omega) rfl (pa_cons (pv 0) (pa_cons (pv 1) (pa_cons (pe_ix ix_tup (pv 2) pe_int (fun _ _ => rfl)) pa_nil))))))))
theorem k_law_own {P : Program} {w : World} {mg : Str → Option Value} {base : Heap} {e : En} {f : Addr} {fd : FuncData} (T : Txt e mg) (F : FunD e.K "_law_own" "_law_own" (defArgs s_law_own) (defBody s_law_own) (defScope s_law_own) [] [] f fd) (m : mg "_law_own" = some (.ref f)) (c_law_cache_load : C8.Cal P w e.K mg base 2 "_law_cache_load" (sp_law_cache_load e) []) (c_law_cache_store : C8.Cal P w e.K mg base 2 "_law_cache_store" (sp_law_cache_store e) []) (c_law_cache_leave : C8.Cal P w e.K mg base 1 "_law_cache_leave" (sp_law_cache_leave e) []) (hl : ∀ vs H Q E, (sp_law_own e) vs H Q E → vs.length = ["p", "line", "a"].length) (hp : ∀ vs H Q E, (sp_law_own e) vs H Q E → (t_law_own e) { nx := fun _ H' => Q .non H', rt := Q } (start N_law_own vs) H) : C8.Cal P w e.K mg base 3 "_law_own" (sp_law_own e) [] :=
  ⟨f, fd, ["p", "line", "a"], [], (F.ok sc_law_own hl (fun cdv A outer s H vs Q E hr h => ⟨t_law_own e, PSs.nox (d_law_own T c_law_cache_load c_law_cache_store c_law_cache_leave hr), hp vs H Q E h⟩)), m, F.kp, (F.bindsN fun _ _ _ _ _ _ us hl => match us, hl with | [_, _, _], _ => rfl), .nil⟩
def s_law_stands : Stmt := top 55
theorem sc_law_stands : FnScope N_law_stands ["caches", "lines", "count", "deep"] (defScope s_law_stands) := ⟨rfl, rfl, rfl, by decide +kernel, rfl, by decide +kernel, by decide +kernel⟩
theorem d_law_stands {P : Program} {w : World} {mg : Str → Option Value} {base : Heap} {e : En} (T : Txt e mg) (c_law_told_caches : C8.Cal P w e.K mg base 1 "_law_told_caches" (sp_law_told_caches e) []) (c_law_same : C8.Cal P w e.K mg base 13 "_law_same" (sp_law_same e) []) (c_Caches_told : C8.Met P w e.K mg base 1 e.Caches "told" (sp_Caches_told e) []) {f : Addr} {cdv : Value} {A : Around} {outer : List Env} {s : Shared} {H : Hp} {E : XK} (hr : Room 13 (A.deeper (envOfC "_law_stands" (defScope s_law_stands) s.heap.objs.size f cdv))) :
    PSs (cxOf CX0 P w e.K mg base N_law_stands "_law_stands" (defScope s_law_stands) f cdv A outer s H E).nox (defBody s_law_stands) (t_law_stands e) := by
    exact (pss_cons (ps_set (i := 4) sc_law_stands.nd rfl (Or.inl rfl) (C8.pe_c c_law_told_caches hr (by first | decide | omega) rfl (pa_cons (pv 1) (pa_cons (pv 2) pa_nil))))
    (pss_cons (ps_if (pt_not (pt_val (C8.pe_c c_law_same hr (by first | decide | omega) rfl (pa_cons (pe_fld (pv 0) rfl) (pa_cons (pe_lc (own := [("line", 5)]) (g := (gName 5)) (tt := tYes) rfl sc_law_stands.nd (pi_list (pv 1)) (blkOk_by (own := [("line", 5)]) (N := N_law_stands) (sc := defScope s_law_stands) (by decide +kernel)) (fun _ _ _ _ _ => (pg_name (i := 5) sc_law_stands.nd rfl (Or.inl rfl))) (fun _ _ _ _ _ => pts_nil) (fun _ _ _ _ _ => (pe_ix ix_list (pv 5) pe_int (fun _ _ => rfl)))) pa_nil)))))
    (pss_one (ps_ret pe_bl))
    pss_nil)
    (pss_one (ps_ret (pe_ifExp (pt_val (pv 3)) (C8.pe_c c_law_same hr (by first | decide | omega) rfl (pa_cons (C8.pe_mt0 c_Caches_told hr (by decide) (pv 0)) (pa_cons (pv 4) pa_nil))) (pe_cmpR (op_eqD hr.units) (C8.pe_mt0 c_Caches_told hr (by decide) (pv 0)) (pv 4) (nomark _)))))))
theorem k_law_stands {P : Program} {w : World} {mg : Str → Option Value} {base : Heap} {e : En} {f : Addr} {fd : FuncData} (T : Txt e mg) (F : FunD e.K "_law_stands" "_law_stands" (defArgs s_law_stands) (defBody s_law_stands) (defScope s_law_stands) [] [] f fd) (m : mg "_law_stands" = some (.ref f)) (c_law_told_caches : C8.Cal P w e.K mg base 1 "_law_told_caches" (sp_law_told_caches e) []) (c_law_same : C8.Cal P w e.K mg base 13 "_law_same" (sp_law_same e) []) (c_Caches_told : C8.Met P w e.K mg base 1 e.Caches "told" (sp_Caches_told e) []) (hl : ∀ vs H Q E, (sp_law_stands e) vs H Q E → vs.length = ["caches", "lines", "count", "deep"].length) (hp : ∀ vs H Q E, (sp_law_stands e) vs H Q E → (t_law_stands e) { nx := fun _ H' => Q .non H', rt := Q } (start N_law_stands vs) H) : C8.Cal P w e.K mg base 14 "_law_stands" (sp_law_stands e) [] :=
  ⟨f, fd, ["caches", "lines", "count", "deep"], [], (F.ok sc_law_stands hl (fun cdv A outer s H vs Q E hr h => ⟨t_law_stands e, PSs.nox (d_law_stands T c_law_told_caches c_law_same c_Caches_told hr), hp vs H Q E h⟩)), m, F.kp, (F.bindsN fun _ _ _ _ _ _ us hl => match us, hl with | [_, _, _, _], _ => rfl), .nil⟩
def s_law_copies : Stmt := top 56
theorem sc_law_copies : FnScope N_law_copies ["lines"] (defScope s_law_copies) := ⟨rfl, rfl, rfl, by decide +kernel, rfl, by decide +kernel, by decide +kernel⟩
theorem d_law_copies {P : Program} {w : World} {mg : Str → Option Value} {base : Heap} {e : En} (T : Txt e mg) {f : Addr} {cdv : Value} {A : Around} {outer : List Env} {s : Shared} {H : Hp} {E : XK} (hr : Room 0 (A.deeper (envOfC "_law_copies" (defScope s_law_copies) s.heap.objs.size f cdv))) :
    PSs (cxOf CX0 P w e.K mg base N_law_copies "_law_copies" (defScope s_law_copies) f cdv A outer s H E).nox (defBody s_law_copies) (t_law_copies e) := by
    exact (pss_one (ps_ret (pe_lc (own := [("line", 1)]) (g := (gName 1)) (tt := tYes) rfl sc_law_copies.nd (pi_list (pv 0)) (blkOk_by (own := [("line", 1)]) (N := N_law_copies) (sc := defScope s_law_copies) (by decide +kernel)) (fun _ _ _ _ _ => (pg_name (i := 1) sc_law_copies.nd rfl (Or.inl rfl))) (fun _ _ _ _ _ => pts_nil) (fun _ _ _ _ _ => (pe_lst (pa_cons (pe_callTy call_list_of rfl T.f_list (by decide +kernel) (pa_cons (pe_ix ix_list (pv 1) pe_int (fun _ _ => rfl)) pa_nil)) (pa_cons (pe_callTy call_list_of rfl T.f_list (by decide +kernel) (pa_cons (pe_ix ix_list (pv 1) pe_int (fun _ _ => rfl)) pa_nil)) (pa_cons (pe_ix ix_list (pv 1) pe_int (fun _ _ => rfl)) pa_nil))))))))
theorem k_law_copies {P : Program} {w : World} {mg : Str → Option Value} {base : Heap} {e : En} {f : Addr} {fd : FuncData} (T : Txt e mg) (F : FunD e.K "_law_copies" "_law_copies" (defArgs s_law_copies) (defBody s_law_copies) (defScope s_law_copies) [] [] f fd) (m : mg "_law_copies" = some (.ref f)) (hl : ∀ vs H Q E, (sp_law_copies e) vs H Q E → vs.length = ["lines"].length) (hp : ∀ vs H Q E, (sp_law_copies e) vs H Q E → (t_law_copies e) { nx := fun _ H' => Q .non H', rt := Q } (start N_law_copies vs) H) : C8.Cal P w e.K mg base 1 "_law_copies" (sp_law_copies e) [] :=
  ⟨f, fd, ["lines"], [], (F.ok sc_law_copies hl (fun cdv A outer s H vs Q E hr h => ⟨t_law_copies e, PSs.nox (d_law_copies T hr), hp vs H Q E h⟩)), m, F.kp, (F.bindsN fun _ _ _ _ _ _ us hl => match us, hl with | [_], _ => rfl), .nil⟩
def s_law_ended : Stmt := top 57
theorem sc_law_ended : FnScope N_law_ended ["p", "caches", "parts", "lines", "count"] (defScope s_law_ended) := ⟨rfl, rfl, rfl, by decide +kernel, rfl, by decide +kernel, by decide +kernel⟩
theorem d_law_ended {P : Program} {w : World} {mg : Str → Option Value} {base : Heap} {e : En} (T : Txt e mg) (c_law_emptied : C8.Cal P w e.K mg base 2 "_law_emptied" (sp_law_emptied e) []) (c_Caches_emptied : C8.Met P w e.K mg base 4 e.Caches "emptied" (sp_Caches_emptied e) []) (c_law_same : C8.Cal P w e.K mg base 13 "_law_same" (sp_law_same e) []) (c_law_stands : C8.Cal P w e.K mg base 14 "_law_stands" (sp_law_stands e) []) {f : Addr} {cdv : Value} {A : Around} {outer : List Env} {s : Shared} {H : Hp} {E : XK} (hr : Room 14 (A.deeper (envOfC "_law_ended" (defScope s_law_ended) s.heap.objs.size f cdv))) :
    PSs (cxOf CX0 P w e.K mg base N_law_ended "_law_ended" (defScope s_law_ended) f cdv A outer s H E).nox (defBody s_law_ended) (t_law_ended e) := by
    exact (pss_cons (ps_set (i := 5) sc_law_ended.nd rfl (Or.inl rfl) (C8.pe_c c_law_emptied hr (by first | decide | omega) rfl (pa_cons (pv 0) (pa_cons (pv 3) (pa_cons (pv 4) pa_nil)))))
    (pss_cons (ps_for PassesOwn.never rfl (pi_range1 rfl T.f_range (pa_cons (pe_callB call_len_seq rfl T.f_len (by decide +kernel) (pa_cons (pv 3) pa_nil)) pa_nil)) (pg_name (i := 6) sc_law_ended.nd rfl (Or.inl rfl))
    (pss_one (ps_if (PW.pt (pw_or (pt_not (pt_val (C8.pe_c c_law_same hr (by first | decide | omega) rfl (pa_cons (C8.pe_mt0 c_Caches_emptied hr (by decide) (pe_ix ix_list (pv 2) (pv 6) (fun _ _ => rfl))) (pa_cons (pe_tup (pa_cons (pe_ix ix_tup (pv 5) (pv 6) (fun _ _ => rfl)) pa_nil)) pa_nil))))) (pw_or1 (pt_not (pt_val (C8.pe_c c_law_stands hr (by first | decide | omega) rfl (pa_cons (pe_ix ix_list (pv 2) (pv 6) (fun _ _ => rfl)) (pa_cons (pe_lst (pa_cons (pe_ix ix_list (pv 3) (pv 6) (fun _ _ => rfl)) pa_nil)) (pa_cons (pv 4) (pa_cons pe_bl pa_nil))))))))))
    (pss_one (ps_ret pe_bl))
    pss_nil)))
    (pss_one (ps_ret (pe_and (C8.pe_c c_law_same hr (by first | decide | omega) rfl (pa_cons (C8.pe_mt0 c_Caches_emptied hr (by decide) (pv 1)) (pa_cons (pv 5) pa_nil))) (pe_and (C8.pe_c c_law_same hr (by first | decide | omega) rfl (pa_cons (C8.pe_mt0 c_Caches_emptied hr (by decide) (pv 1)) (pa_cons (pv 5) pa_nil))) (pe_one (C8.pe_c c_law_stands hr (by first | decide | omega) rfl (pa_cons (pv 1) (pa_cons (pv 3) (pa_cons (pv 4) (pa_cons pe_bl pa_nil))))))))))))
theorem k_law_ended {P : Program} {w : World} {mg : Str → Option Value} {base : Heap} {e : En} {f : Addr} {fd : FuncData} (T : Txt e mg) (F : FunD e.K "_law_ended" "_law_ended" (defArgs s_law_ended) (defBody s_law_ended) (defScope s_law_ended) [] [] f fd) (m : mg "_law_ended" = some (.ref f)) (c_law_emptied : C8.Cal P w e.K mg base 2 "_law_emptied" (sp_law_emptied e) []) (c_Caches_emptied : C8.Met P w e.K mg base 4 e.Caches "emptied" (sp_Caches_emptied e) []) (c_law_same : C8.Cal P w e.K mg base 13 "_law_same" (sp_law_same e) []) (c_law_stands : C8.Cal P w e.K mg base 14 "_law_stands" (sp_law_stands e) []) (hl : ∀ vs H Q E, (sp_law_ended e) vs H Q E → vs.length = ["p", "caches", "parts", "lines", "count"].length) (hp : ∀ vs H Q E, (sp_law_ended e) vs H Q E → (t_law_ended e) { nx := fun _ H' => Q .non H', rt := Q } (start N_law_ended vs) H) : C8.Cal P w e.K mg base 15 "_law_ended" (sp_law_ended e) [] :=
  ⟨f, fd, ["p", "caches", "parts", "lines", "count"], [], (F.ok sc_law_ended hl (fun cdv A outer s H vs Q E hr h => ⟨t_law_ended e, PSs.nox (d_law_ended T c_law_emptied c_Caches_emptied c_law_same c_law_stands hr), hp vs H Q E h⟩)), m, F.kp, (F.bindsN fun _ _ _ _ _ _ us hl => match us, hl with | [_, _, _, _, _], _ => rfl), .nil⟩
def s_law : Stmt := top 58
theorem sc_law : FnScope N_law ["script"] (defScope s_law) := ⟨rfl, rfl, rfl, by decide +kernel, rfl, by decide +kernel, by decide +kernel⟩
theorem d_law {P : Program} {w : World} {mg : Str → Option Value} {base : Heap} {e : En} (T : Txt e mg) (c_law_cell : C8.Cal P w e.K mg base 1 "_law_cell" (sp_law_cell e) []) (c_law_protocol : C8.Cal P w e.K mg base 3 "_law_protocol" (sp_law_protocol e) []) (c_read_protocol : C8.Cal P w e.K mg base 6 "read_protocol" (sp_read_protocol e) []) (c_law_table : C8.Cal P w e.K mg base 1 "_law_table" (sp_law_table e) []) (c_law_draws : C8.Cal P w e.K mg base 2 "_law_draws" (sp_law_draws e) []) (c_law_value : C8.Cal P w e.K mg base 1 "_law_value" (sp_law_value e) []) (c_Caches___init__ : C8.Mak P w e.K mg base 1 "Caches" e.Caches (sp_Caches___init__ e) []) (c_law_lines : C8.Cal P w e.K mg base 1 "_law_lines" (sp_law_lines e) []) (c_law_accesses : C8.Cal P w e.K mg base 3 "_law_accesses" (sp_law_accesses e) []) (c_Caches_copy : C8.Met P w e.K mg base 3 e.Caches "copy" (sp_Caches_copy e) []) (c_law_copies : C8.Cal P w e.K mg base 1 "_law_copies" (sp_law_copies e) []) (c_law_own : C8.Cal P w e.K mg base 3 "_law_own" (sp_law_own e) []) (c_law_answer : C8.Cal P w e.K mg base 4 "_law_answer" (sp_law_answer e) []) (c_law_same : C8.Cal P w e.K mg base 13 "_law_same" (sp_law_same e) []) (c_law_stands : C8.Cal P w e.K mg base 14 "_law_stands" (sp_law_stands e) []) (c_Caches_state_of : C8.Met P w e.K mg base 1 e.Caches "state_of" (sp_Caches_state_of e) []) (c_Caches_copy_of : C8.Met P w e.K mg base 1 e.Caches "copy_of" (sp_Caches_copy_of e) []) (c_law_ended : C8.Cal P w e.K mg base 15 "_law_ended" (sp_law_ended e) []) {f : Addr} {cdv : Value} {A : Around} {outer : List Env} {s : Shared} {H : Hp} {E : XK} (hr : Room 15 (A.deeper (envOfC "law" (defScope s_law) s.heap.objs.size f cdv))) :
    PSs (cxOf CX0 P w e.K mg base N_law "law" (defScope s_law) f cdv A outer s H E).nox (defBody s_law) (t_law e) := by
    exact (pss_cons (ps_set (i := 1) sc_law.nd rfl (Or.inl rfl) (C8.pe_c c_law_protocol hr (by first | decide | omega) rfl (pa_cons (C8.pe_c c_law_cell hr (by first | decide | omega) rfl (pa_cons (pv 0) (pa_cons pe_int pa_nil))) pa_nil)))
    (pss_cons (ps_set (i := 2) sc_law.nd rfl (Or.inr rfl) (pe_ifExp (pt_cmpR op_isN1 (pv 1) pe_non (nomark _)) pe_non (C8.pe_c c_read_protocol hr (by first | decide | omega) rfl (pa_cons (pv 1) pa_nil))))
    (pss_cons (ps_set (i := 3) sc_law.nd rfl (Or.inl rfl) (pe_ifExp (pt_cmpR op_isN1 (pv 1) pe_non (nomark _)) pe_non (C8.pe_c c_law_table hr (by first | decide | omega) rfl (pa_cons (pv 1) pa_nil))))
    (pss_cons (ps_set (i := 4) sc_law.nd rfl (Or.inl rfl) (C8.pe_c c_law_draws hr (by first | decide | omega) rfl (pa_cons (C8.pe_c c_law_cell hr (by first | decide | omega) rfl (pa_cons (pv 0) (pa_cons pe_int pa_nil))) (pa_cons pe_int (pa_cons pe_int pa_nil)))))
    (pss_cons (ps_set (i := 5) sc_law.nd rfl (Or.inr rfl) (pe_ix ix_list (pe_lst (pa_cons pe_int (pa_cons pe_int (pa_cons pe_int (pa_cons pe_int pa_nil))))) (pe_op op_mod (pe_callTy call_int1 rfl T.f_int (by decide +kernel) (pa_cons (pe_ix ix_list (pv 4) pe_int (fun _ _ => rfl)) pa_nil)) pe_int) (fun _ _ => rfl)))
    (pss_cons (ps_set (i := 6) sc_law.nd rfl (Or.inr rfl) (pe_op op_mod (pe_callTy call_int1 rfl T.f_int (by decide +kernel) (pa_cons (pe_ix ix_list (pv 4) pe_int (fun _ _ => rfl)) pa_nil)) (pv 5)))
    (pss_cons (ps_set (i := 7) sc_law.nd rfl (Or.inr rfl) (pe_op op_mod (pe_callTy call_int1 rfl T.f_int (by decide +kernel) (pa_cons (pe_op op_add (pe_op op_add (pv 6) pe_int) (pe_op op_mod (pe_callTy call_int1 rfl T.f_int (by decide +kernel) (pa_cons (pe_ix ix_list (pv 4) pe_int (fun _ _ => rfl)) pa_nil)) (pe_op op_sub (pv 5) pe_int))) pa_nil)) (pv 5)))
    (pss_cons (ps_setLc (i := 8) (own := [("k", 18)]) (g := (gName 18)) (tt := (tAnd (tTest (tOp rNe (tVar 18) (tVar 6))) (tTest (tOp rNe (tVar 18) (tVar 7))))) rfl sc_law.nd rfl rfl (sw_true rfl rfl rfl (by decide +kernel)) (pi_range1 rfl T.f_range (pa_cons (pv 5) pa_nil)) (blkOk_by (own := [("k", 18)]) (N := N_law) (sc := defScope s_law) (by decide +kernel)) (fun _ _ _ _ _ => (pg_name (i := 18) sc_law.nd rfl (Or.inl rfl))) (fun _ _ _ _ _ => (pts_one (PW.pt (pw_and (pt_cmpR op_ne (pv 18) (pv 6) (nomark _)) (pw_and1 (pt_cmpR op_ne (pv 18) (pv 7) (nomark _))))))) (fun _ _ _ _ _ => (pv 18)))
    (pss_cons (ps_set (i := 9) sc_law.nd rfl (Or.inl rfl) (pe_ix ix_list (pe_lst (pa_cons pe_int (pa_cons pe_int (pa_cons pe_int (pa_cons pe_int (pa_cons pe_int pa_nil)))))) (pe_op op_mod (pe_callTy call_int1 rfl T.f_int (by decide +kernel) (pa_cons (pe_ix ix_list (pv 4) pe_int (fun _ _ => rfl)) pa_nil)) pe_int) (fun _ _ => rfl)))
    (pss_cons (ps_setLc (i := 10) (own := [("x", 22)]) (g := (gName 22)) (tt := tYes) rfl sc_law.nd rfl rfl (sw_true rfl rfl rfl (by decide +kernel)) (pi_list (C8.pe_c c_law_draws hr (by first | decide | omega) rfl (pa_cons (C8.pe_c c_law_cell hr (by first | decide | omega) rfl (pa_cons (pv 0) (pa_cons pe_int pa_nil))) (pa_cons (pv 9) (pa_cons (pe_op op_shl pe_int pe_int) pa_nil))))) (blkOk_by (own := [("x", 22)]) (N := N_law) (sc := defScope s_law) (by decide +kernel)) (fun _ _ _ _ _ => (pg_name (i := 22) sc_law.nd rfl (Or.inl rfl))) (fun _ _ _ _ _ => pts_nil) (fun _ _ _ _ _ => (C8.pe_c c_law_value hr (by first | decide | omega) rfl (pa_cons (pv 22) (pa_cons (pe_op op_shl pe_int pe_int) pa_nil)))))
    (pss_cons (ps_set (i := 11) sc_law.nd rfl (Or.inl rfl) (C8.pe_mk c_Caches___init__ hr (by decide) rfl (pa_cons (pv 2) (pa_cons (pv 5) (pa_cons (pe_callTy call_list_of rfl T.f_list (by decide +kernel) (pa_cons (pv 10) pa_nil)) pa_nil)))))
    (pss_cons (ps_setLc (i := 12) (own := [("word", 23)]) (g := (gName 23)) (tt := tYes) rfl sc_law.nd rfl rfl (sw_true rfl rfl rfl (by decide +kernel)) (pi_list (pv 10)) (blkOk_by (own := [("word", 23)]) (N := N_law) (sc := defScope s_law) (by decide +kernel)) (fun _ _ _ _ _ => (pg_name (i := 23) sc_law.nd rfl (Or.inl rfl))) (fun _ _ _ _ _ => pts_nil) (fun _ _ _ _ _ => (C8.pe_mk c_Caches___init__ hr (by decide) rfl (pa_cons (pv 2) (pa_cons (pv 5) (pa_cons (pe_lst (pa_cons (pv 23) pa_nil)) pa_nil))))))
    (pss_cons (ps_set (i := 13) sc_law.nd rfl (Or.inl rfl) (C8.pe_c c_law_lines hr (by first | decide | omega) rfl (pa_cons (pv 10) (pa_cons (pv 5) pa_nil))))
    (pss_cons (ps_set (i := 14) sc_law.nd rfl (Or.inl rfl) (C8.pe_c c_law_accesses hr (by first | decide | omega) rfl (pa_cons (C8.pe_c c_law_cell hr (by first | decide | omega) rfl (pa_cons (pv 0) (pa_cons pe_int pa_nil))) (pa_cons (pe_op op_add pe_int (pe_op op_mod (pe_callTy call_int1 rfl T.f_int (by decide +kernel) (pa_cons (pe_ix ix_list (pv 4) pe_int (fun _ _ => rfl)) pa_nil)) pe_int)) (pa_cons (pv 8) (pa_cons (pv 9) pa_nil))))))
    (pss_cons (ps_set (i := 15) sc_law.nd rfl (Or.inl rfl) (pe_op op_mod (pe_callTy call_int1 rfl T.f_int (by decide +kernel) (pa_cons (pe_ix ix_list (pv 4) pe_int (fun _ _ => rfl)) pa_nil)) (pe_callB call_len_seq rfl T.f_len (by decide +kernel) (pa_cons (pv 14) pa_nil))))
    (pss_cons (ps_set (i := 16) sc_law.nd rfl (Or.inl rfl) (C8.pe_mt0 c_Caches_copy hr (by decide) (pv 11)))
    (pss_cons (ps_set (i := 17) sc_law.nd rfl (Or.inl rfl) (C8.pe_c c_law_copies hr (by first | decide | omega) rfl (pa_cons (pv 13) pa_nil)))
    (pss_cons (ps_for PassesOwn.never rfl (pi_range1 rfl T.f_range (pa_cons (pe_callB call_len_seq rfl T.f_len (by decide +kernel) (pa_cons (pv 14) pa_nil)) pa_nil)) (pg_name (i := 18) sc_law.nd rfl (Or.inl rfl))
    (pss_cons (ps_set (i := 19) sc_law.nd rfl (Or.inl rfl) (pe_ix ix_list (pv 14) (pv 18) (fun _ _ => rfl)))
    (pss_cons (ps_set (i := 20) sc_law.nd rfl (Or.inl rfl) (pe_ix ix_tup (pv 19) pe_int (fun _ _ => rfl)))
    (pss_cons (ps_if (pt_cmpR op_eq (pv 18) (pv 15) (nomark _))
    (pss_cons (ps_set (i := 16) sc_law.nd rfl (Or.inl rfl) (C8.pe_mt0 c_Caches_copy hr (by decide) (pv 11)))
    (pss_one (ps_set (i := 17) sc_law.nd rfl (Or.inl rfl) (C8.pe_c c_law_copies hr (by first | decide | omega) rfl (pa_cons (pv 13) pa_nil)))))
    pss_nil)
    (pss_cons (ps_set (i := 21) sc_law.nd rfl (Or.inl rfl) (C8.pe_c c_law_own hr (by first | decide | omega) rfl (pa_cons (pv 3) (pa_cons (pe_ix ix_list (pv 13) (pv 20) (fun _ _ => rfl)) (pa_cons (pv 19) pa_nil)))))
    (pss_cons (ps_if (PW.pt (pw_or (pt_not (pt_val (C8.pe_c c_law_same hr (by first | decide | omega) rfl (pa_cons (C8.pe_c c_law_answer hr (by first | decide | omega) rfl (pa_cons (pv 11) (pa_cons (pv 19) (pa_cons (pv 20) pa_nil)))) (pa_cons (pv 21) pa_nil))))) (pw_or1 (pt_not (pt_val (C8.pe_c c_law_same hr (by first | decide | omega) rfl (pa_cons (C8.pe_c c_law_answer hr (by first | decide | omega) rfl (pa_cons (pe_ix ix_list (pv 12) (pv 20) (fun _ _ => rfl)) (pa_cons (pv 19) (pa_cons pe_int pa_nil)))) (pa_cons (pv 21) pa_nil))))))))
    (pss_one (ps_ret pe_bl))
    pss_nil)
    (pss_cons (ps_if (PW.pt (pw_or (pt_not (pt_val (C8.pe_c c_law_stands hr (by first | decide | omega) rfl (pa_cons (pv 11) (pa_cons (pv 13) (pa_cons (pv 5) (pa_cons (pe_cmpR op_eq (pe_op op_mod (pe_callTy call_int1 rfl T.f_int (by decide +kernel) (pa_cons (pv 18) pa_nil)) pe_int) pe_int (nomark _)) pa_nil))))))) (pw_or1 (pt_not (pt_val (C8.pe_c c_law_stands hr (by first | decide | omega) rfl (pa_cons (pe_ix ix_list (pv 12) (pv 20) (fun _ _ => rfl)) (pa_cons (pe_lst (pa_cons (pe_ix ix_list (pv 13) (pv 20) (fun _ _ => rfl)) pa_nil)) (pa_cons (pv 5) (pa_cons pe_bl pa_nil))))))))))
    (pss_one (ps_ret pe_bl))
    pss_nil)
    (pss_one (ps_if (PW.pt (pw_or (pt_not (pt_val (C8.pe_c c_law_same hr (by first | decide | omega) rfl (pa_cons (C8.pe_mt c_Caches_state_of hr (by decide) (pv 11) (pa_cons (pe_ix ix_tup (pv 19) pe_int (fun _ _ => rfl)) (pa_cons (pv 20) pa_nil))) (pa_cons (pe_ix ix_list (pe_ix ix_list (pe_ix ix_list (pv 13) (pv 20) (fun _ _ => rfl)) pe_int (fun _ _ => rfl)) (pe_ix ix_tup (pv 19) pe_int (fun _ _ => rfl)) (fun _ _ => rfl)) pa_nil))))) (pw_or1 (pt_not (pt_val (C8.pe_c c_law_same hr (by first | decide | omega) rfl (pa_cons (C8.pe_mt c_Caches_copy_of hr (by decide) (pv 11) (pa_cons (pe_ix ix_tup (pv 19) pe_int (fun _ _ => rfl)) (pa_cons (pv 20) pa_nil))) (pa_cons (pe_ix ix_list (pe_ix ix_list (pe_ix ix_list (pv 13) (pv 20) (fun _ _ => rfl)) pe_int (fun _ _ => rfl)) (pe_ix ix_tup (pv 19) pe_int (fun _ _ => rfl)) (fun _ _ => rfl)) pa_nil))))))))
    (pss_one (ps_ret pe_bl))
    pss_nil)))))))))
    (pss_cons (ps_if (PW.pt (pw_or (pt_not (pt_val (C8.pe_c c_law_ended hr (by first | decide | omega) rfl (pa_cons (pv 3) (pa_cons (pv 11) (pa_cons (pv 12) (pa_cons (pv 13) (pa_cons (pv 5) pa_nil)))))))) (pw_or1 (pt_not (pt_val (C8.pe_c c_law_stands hr (by first | decide | omega) rfl (pa_cons (pv 16) (pa_cons (pv 17) (pa_cons (pv 5) (pa_cons pe_bl pa_nil))))))))))
    (pss_one (ps_ret pe_bl))
    pss_nil)
    (pss_cons (ps_set (i := 19) sc_law.nd rfl (Or.inl rfl) (pe_ix ix_list (pv 14) (pe_un un_neg pe_int) (fun _ _ => rfl)))
    (pss_cons (ps_if (pt_not (pt_val (C8.pe_c c_law_same hr (by first | decide | omega) rfl (pa_cons (C8.pe_c c_law_answer hr (by first | decide | omega) rfl (pa_cons (pv 16) (pa_cons (pv 19) (pa_cons (pe_ix ix_tup (pv 19) pe_int (fun _ _ => rfl)) pa_nil)))) (pa_cons (C8.pe_c c_law_own hr (by first | decide | omega) rfl (pa_cons (pv 3) (pa_cons (pe_ix ix_list (pv 17) (pe_ix ix_tup (pv 19) pe_int (fun _ _ => rfl)) (fun _ _ => rfl)) (pa_cons (pv 19) pa_nil)))) pa_nil)))))
    (pss_one (ps_ret pe_bl))
    pss_nil)
    (pss_one (ps_ret (pe_and (C8.pe_c c_law_stands hr (by first | decide | omega) rfl (pa_cons (pv 16) (pa_cons (pv 17) (pa_cons (pv 5) (pa_cons pe_bl pa_nil))))) (pe_one (C8.pe_c c_law_stands hr (by first | decide | omega) rfl (pa_cons (pv 11) (pa_cons (pv 13) (pa_cons (pv 5) (pa_cons pe_bl pa_nil))))))))))))))))))))))))))))))
theorem k_law {P : Program} {w : World} {mg : Str → Option Value} {base : Heap} {e : En} {f : Addr} {fd : FuncData} (T : Txt e mg) (F : FunD e.K "law" "law" (defArgs s_law) (defBody s_law) (defScope s_law) [] [] f fd) (m : mg "law" = some (.ref f)) (c_law_cell : C8.Cal P w e.K mg base 1 "_law_cell" (sp_law_cell e) []) (c_law_protocol : C8.Cal P w e.K mg base 3 "_law_protocol" (sp_law_protocol e) []) (c_read_protocol : C8.Cal P w e.K mg base 6 "read_protocol" (sp_read_protocol e) []) (c_law_table : C8.Cal P w e.K mg base 1 "_law_table" (sp_law_table e) []) (c_law_draws : C8.Cal P w e.K mg base 2 "_law_draws" (sp_law_draws e) []) (c_law_value : C8.Cal P w e.K mg base 1 "_law_value" (sp_law_value e) []) (c_Caches___init__ : C8.Mak P w e.K mg base 1 "Caches" e.Caches (sp_Caches___init__ e) []) (c_law_lines : C8.Cal P w e.K mg base 1 "_law_lines" (sp_law_lines e) []) (c_law_accesses : C8.Cal P w e.K mg base 3 "_law_accesses" (sp_law_accesses e) []) (c_Caches_copy : C8.Met P w e.K mg base 3 e.Caches "copy" (sp_Caches_copy e) []) (c_law_copies : C8.Cal P w e.K mg base 1 "_law_copies" (sp_law_copies e) []) (c_law_own : C8.Cal P w e.K mg base 3 "_law_own" (sp_law_own e) []) (c_law_answer : C8.Cal P w e.K mg base 4 "_law_answer" (sp_law_answer e) []) (c_law_same : C8.Cal P w e.K mg base 13 "_law_same" (sp_law_same e) []) (c_law_stands : C8.Cal P w e.K mg base 14 "_law_stands" (sp_law_stands e) []) (c_Caches_state_of : C8.Met P w e.K mg base 1 e.Caches "state_of" (sp_Caches_state_of e) []) (c_Caches_copy_of : C8.Met P w e.K mg base 1 e.Caches "copy_of" (sp_Caches_copy_of e) []) (c_law_ended : C8.Cal P w e.K mg base 15 "_law_ended" (sp_law_ended e) []) (hl : ∀ vs H Q E, (sp_law e) vs H Q E → vs.length = ["script"].length) (hp : ∀ vs H Q E, (sp_law e) vs H Q E → (t_law e) { nx := fun _ H' => Q .non H', rt := Q } (start N_law vs) H) : C8.Cal P w e.K mg base 16 "law" (sp_law e) [] :=
  ⟨f, fd, ["script"], [], (F.ok sc_law hl (fun cdv A outer s H vs Q E hr h => ⟨t_law e, PSs.nox (d_law T c_law_cell c_law_protocol c_read_protocol c_law_table c_law_draws c_law_value c_Caches___init__ c_law_lines c_law_accesses c_Caches_copy c_law_copies c_law_own c_law_answer c_law_same c_law_stands c_Caches_state_of c_Caches_copy_of c_law_ended hr), hp vs H Q E h⟩)), m, F.kp, (F.bindsN fun _ _ _ _ _ _ us hl => match us, hl with | [_], _ => rfl), .nil⟩
end Cm
set_option maxHeartbeats 0
namespace Cm
open PySem PySem.Spec PyProof.Rows L2
def h_merge : He.DefD := ⟨("merge", none), "merge", "merge", defArgs s_merge, defBody s_merge, defScope s_merge, [], []⟩
def h_Caches___init__ : He.DefD := ⟨("Caches", some "__init__"), "__init__", "Caches.__init__", defArgs s_Caches___init__, defBody s_Caches___init__, defScope s_Caches___init__, [], []⟩
def h_Caches_others : He.DefD := ⟨("Caches", some "others"), "others", "Caches.others", defArgs s_Caches_others, defBody s_Caches_others, defScope s_Caches_others, [], []⟩
def h_Caches_clean : He.DefD := ⟨("Caches", some "clean"), "clean", "Caches.clean", defArgs s_Caches_clean, defBody s_Caches_clean, defScope s_Caches_clean, [], []⟩
def h_Caches_fetched : He.DefD := ⟨("Caches", some "fetched"), "fetched", "Caches.fetched", defArgs s_Caches_fetched, defBody s_Caches_fetched, defScope s_Caches_fetched, [], []⟩
def h_Caches_move : He.DefD := ⟨("Caches", some "move"), "move", "Caches.move", defArgs s_Caches_move, defBody s_Caches_move, defScope s_Caches_move, [], []⟩
def h_Caches_load : He.DefD := ⟨("Caches", some "load"), "load", "Caches.load", defArgs s_Caches_load, defBody s_Caches_load, defScope s_Caches_load, [], []⟩
def h_Caches_steal : He.DefD := ⟨("Caches", some "steal"), "steal", "Caches.steal", defArgs s_Caches_steal, defBody s_Caches_steal, defScope s_Caches_steal, [], []⟩
def h_Caches_store : He.DefD := ⟨("Caches", some "store"), "store", "Caches.store", defArgs s_Caches_store, defBody s_Caches_store, defScope s_Caches_store, [], []⟩
def h_Caches_leave : He.DefD := ⟨("Caches", some "leave"), "leave", "Caches.leave", defArgs s_Caches_leave, defBody s_Caches_leave, defScope s_Caches_leave, [], []⟩
def h_Caches_state_of : He.DefD := ⟨("Caches", some "state_of"), "state_of", "Caches.state_of", defArgs s_Caches_state_of, defBody s_Caches_state_of, defScope s_Caches_state_of, [], []⟩
def h_Caches_copy_of : He.DefD := ⟨("Caches", some "copy_of"), "copy_of", "Caches.copy_of", defArgs s_Caches_copy_of, defBody s_Caches_copy_of, defScope s_Caches_copy_of, [], []⟩
def h_Caches_told : He.DefD := ⟨("Caches", some "told"), "told", "Caches.told", defArgs s_Caches_told, defBody s_Caches_told, defScope s_Caches_told, [], []⟩
def h_Caches_emptied : He.DefD := ⟨("Caches", some "emptied"), "emptied", "Caches.emptied", defArgs s_Caches_emptied, defBody s_Caches_emptied, defScope s_Caches_emptied, [], []⟩
def h_Caches_copy : He.DefD := ⟨("Caches", some "copy"), "copy", "Caches.copy", defArgs s_Caches_copy, defBody s_Caches_copy, defScope s_Caches_copy, [], []⟩
def h_split_text : He.DefD := ⟨("split_text", none), "split_text", "split_text", defArgs s_split_text, defBody s_split_text, defScope s_split_text, [], []⟩
def h_made_of : He.DefD := ⟨("made_of", none), "made_of", "made_of", defArgs s_made_of, defBody s_made_of, defScope s_made_of, [], []⟩
def h_number_of : He.DefD := ⟨("number_of", none), "number_of", "number_of", defArgs s_number_of, defBody s_number_of, defScope s_number_of, [], []⟩
def h_is_name : He.DefD := ⟨("is_name", none), "is_name", "is_name", defArgs s_is_name, defBody s_is_name, defScope s_is_name, [], []⟩
def h_check_count : He.DefD := ⟨("check_count", none), "check_count", "check_count", defArgs s_check_count, defBody s_check_count, defScope s_check_count, [], []⟩
def h_due_line : He.DefD := ⟨("due_line", none), "due_line", "due_line", defArgs s_due_line, defBody s_due_line, defScope s_due_line, [], []⟩
def h_any_number : He.DefD := ⟨("any_number", none), "any_number", "any_number", defArgs s_any_number, defBody s_any_number, defScope s_any_number, [], []⟩
def h_read_number : He.DefD := ⟨("read_number", none), "read_number", "read_number", defArgs s_read_number, defBody s_read_number, defScope s_read_number, [], []⟩
def h_read_name : He.DefD := ⟨("read_name", none), "read_name", "read_name", defArgs s_read_name, defBody s_read_name, defScope s_read_name, [], []⟩
def h_read_choice : He.DefD := ⟨("read_choice", none), "read_choice", "read_choice", defArgs s_read_choice, defBody s_read_choice, defScope s_read_choice, [], []⟩
def h_Scheme___init__ : He.DefD := ⟨("Scheme", some "__init__"), "__init__", "Scheme.__init__", defArgs s_Scheme___init__, defBody s_Scheme___init__, defScope s_Scheme___init__, [], []⟩
def h_read_protocol : He.DefD := ⟨("read_protocol", none), "read_protocol", "read_protocol", defArgs s_read_protocol, defBody s_read_protocol, defScope s_read_protocol, [], []⟩
def h_read_state : He.DefD := ⟨("read_state", none), "read_state", "read_state", defArgs s_read_state, defBody s_read_state, defScope s_read_state, [], []⟩
def h_read_row : He.DefD := ⟨("read_row", none), "read_row", "read_row", defArgs s_read_row, defBody s_read_row, defScope s_read_row, [], []⟩
def h_law_cell : He.DefD := ⟨("_law_cell", none), "_law_cell", "_law_cell", defArgs s_law_cell, defBody s_law_cell, defScope s_law_cell, [], []⟩
def h_law_mix : He.DefD := ⟨("_law_mix", none), "_law_mix", "_law_mix", defArgs s_law_mix, defBody s_law_mix, defScope s_law_mix, [], []⟩
def h_law_draws : He.DefD := ⟨("_law_draws", none), "_law_draws", "_law_draws", defArgs s_law_draws, defBody s_law_draws, defScope s_law_draws, [], []⟩
def h_law_number : He.DefD := ⟨("_law_number", none), "_law_number", "_law_number", defArgs s_law_number, defBody s_law_number, defScope s_law_number, [], []⟩
def h_law_same : He.DefD := ⟨("_law_same", none), "_law_same", "_law_same", defArgs s_law_same, defBody s_law_same, defScope s_law_same, [], []⟩
def h_law_merge : He.DefD := ⟨("_law_merge", none), "_law_merge", "_law_merge", defArgs s_law_merge, defBody s_law_merge, defScope s_law_merge, [], []⟩
def h_law_value : He.DefD := ⟨("_law_value", none), "_law_value", "_law_value", defArgs s_law_value, defBody s_law_value, defScope s_law_value, [], []⟩
def h_law_sharing : He.DefD := ⟨("_law_sharing", none), "_law_sharing", "_law_sharing", defArgs s_law_sharing, defBody s_law_sharing, defScope s_law_sharing, [], []⟩
def h_law_table_text : He.DefD := ⟨("_law_table_text", none), "_law_table_text", "_law_table_text", defArgs s_law_table_text, defBody s_law_table_text, defScope s_law_table_text, [], []⟩
def h_law_table : He.DefD := ⟨("_law_table", none), "_law_table", "_law_table", defArgs s_law_table, defBody s_law_table, defScope s_law_table, [], []⟩
def h_law_others : He.DefD := ⟨("_law_others", none), "_law_others", "_law_others", defArgs s_law_others, defBody s_law_others, defScope s_law_others, [], []⟩
def h_law_cache_load : He.DefD := ⟨("_law_cache_load", none), "_law_cache_load", "_law_cache_load", defArgs s_law_cache_load, defBody s_law_cache_load, defScope s_law_cache_load, [], []⟩
def h_law_cache_store : He.DefD := ⟨("_law_cache_store", none), "_law_cache_store", "_law_cache_store", defArgs s_law_cache_store, defBody s_law_cache_store, defScope s_law_cache_store, [], []⟩
def h_law_cache_leave : He.DefD := ⟨("_law_cache_leave", none), "_law_cache_leave", "_law_cache_leave", defArgs s_law_cache_leave, defBody s_law_cache_leave, defScope s_law_cache_leave, [], []⟩
def h_law_lines : He.DefD := ⟨("_law_lines", none), "_law_lines", "_law_lines", defArgs s_law_lines, defBody s_law_lines, defScope s_law_lines, [], []⟩
def h_law_told_caches : He.DefD := ⟨("_law_told_caches", none), "_law_told_caches", "_law_told_caches", defArgs s_law_told_caches, defBody s_law_told_caches, defScope s_law_told_caches, [], []⟩
def h_law_emptied : He.DefD := ⟨("_law_emptied", none), "_law_emptied", "_law_emptied", defArgs s_law_emptied, defBody s_law_emptied, defScope s_law_emptied, [], []⟩
def h_law_protocol : He.DefD := ⟨("_law_protocol", none), "_law_protocol", "_law_protocol", defArgs s_law_protocol, defBody s_law_protocol, defScope s_law_protocol, [], []⟩
def h_law_accesses : He.DefD := ⟨("_law_accesses", none), "_law_accesses", "_law_accesses", defArgs s_law_accesses, defBody s_law_accesses, defScope s_law_accesses, [], []⟩
def h_law_answer : He.DefD := ⟨("_law_answer", none), "_law_answer", "_law_answer", defArgs s_law_answer, defBody s_law_answer, defScope s_law_answer, [], []⟩
def h_law_own : He.DefD := ⟨("_law_own", none), "_law_own", "_law_own", defArgs s_law_own, defBody s_law_own, defScope s_law_own, [], []⟩
def h_law_stands : He.DefD := ⟨("_law_stands", none), "_law_stands", "_law_stands", defArgs s_law_stands, defBody s_law_stands, defScope s_law_stands, [], []⟩
def h_law_copies : He.DefD := ⟨("_law_copies", none), "_law_copies", "_law_copies", defArgs s_law_copies, defBody s_law_copies, defScope s_law_copies, [], []⟩
def h_law_ended : He.DefD := ⟨("_law_ended", none), "_law_ended", "_law_ended", defArgs s_law_ended, defBody s_law_ended, defScope s_law_ended, [], []⟩
def h_law : He.DefD := ⟨("law", none), "law", "law", defArgs s_law, defBody s_law, defScope s_law, [], []⟩
def fn : List He.DefD := [h_merge, h_Caches___init__, h_Caches_others, h_Caches_clean, h_Caches_fetched, h_Caches_move, h_Caches_load, h_Caches_steal, h_Caches_store, h_Caches_leave, h_Caches_state_of, h_Caches_copy_of, h_Caches_told, h_Caches_emptied, h_Caches_copy, h_split_text, h_made_of, h_number_of, h_is_name, h_check_count, h_due_line, h_any_number, h_read_number, h_read_name, h_read_choice, h_Scheme___init__, h_read_protocol, h_read_state, h_read_row, h_law_cell, h_law_mix, h_law_draws, h_law_number, h_law_same, h_law_merge, h_law_value, h_law_sharing, h_law_table_text, h_law_table, h_law_others, h_law_cache_load, h_law_cache_store, h_law_cache_leave, h_law_lines, h_law_told_caches, h_law_emptied, h_law_protocol, h_law_accesses, h_law_answer, h_law_own, h_law_stands, h_law_copies, h_law_ended, h_law]
def fa : List He.Fa := [.free "abs", .free "bool", .free "enumerate", .free "int", .free "isinstance", .free "len", .free "list", .free "range", .free "str", .free "tuple", .int "BYTE" 255, .str "DIGITS" "0123456789", .glo "FLAGS", .int "HEAD_LINES" 6, .int "LONGEST_NAME" 12, .int "MOST_LINES" 4000, .int "MOST_SIGNS" 120, .int "MOST_STATES" 4, .str "SMALL_LETTERS" "abcdefghijklmnopqrstuvwxyz", .glo "STATE_COUNTS", .glo "Caches", .cls "Caches", .glo "Scheme", .cls "Scheme", .noat "Caches" "copies", .noat "Caches" "memory", .noat "Caches" "protocol", .noat "Caches" "states", .noat "Scheme" "cleanread", .noat "Scheme" "cleansteal", .noat "Scheme" "giveread", .noat "Scheme" "givesteal", .noat "Scheme" "lone", .noat "Scheme" "name", .noat "Scheme" "onread", .noat "Scheme" "onsteal", .noat "Scheme" "own", .noat "Scheme" "shared", .noat "Scheme" "states", .noat "Scheme" "through", .noat "Scheme" "write", .noat "Scheme" "writeback", .glo "merge", .mkr "Caches", .meth "Caches" "others", .meth "Caches" "clean", .meth "Caches" "fetched", .meth "Caches" "move", .meth "Caches" "load", .meth "Caches" "steal", .meth "Caches" "store", .meth "Caches" "leave", .meth "Caches" "state_of", .meth "Caches" "copy_of", .meth "Caches" "told", .meth "Caches" "emptied", .meth "Caches" "copy", .glo "split_text", .glo "made_of", .glo "number_of", .glo "is_name", .glo "check_count", .glo "due_line", .glo "any_number", .glo "read_number", .glo "read_name", .glo "read_choice", .mkr "Scheme", .glo "read_protocol", .glo "read_state", .glo "read_row", .glo "_law_cell", .glo "_law_mix", .glo "_law_draws", .glo "_law_number", .glo "_law_same", .glo "_law_merge", .glo "_law_value", .glo "_law_sharing", .glo "_law_table_text", .glo "_law_table", .glo "_law_others", .glo "_law_cache_load", .glo "_law_cache_store", .glo "_law_cache_leave", .glo "_law_lines", .glo "_law_told_caches", .glo "_law_emptied", .glo "_law_protocol", .glo "_law_accesses", .glo "_law_answer", .glo "_law_own", .glo "_law_stands", .glo "_law_copies", .glo "_law_ended", .glo "law"]
def ex (K : PySem.W.Frag) : Bool := He.tupB K "FLAGS" [.str "giveread", .str "cleanread", .str "givesteal", .str "cleansteal", .str "back"] && He.tupB K "STATE_COUNTS" [.int 5, .int 6, .int 7, .int 8, .int 9, .int 10]
def loose0 : List PySem.Str := ["__name__", "BYTE", "merge", "Caches", "MillError", "TextError", "MOST_LINES", "MOST_SIGNS", "LONGEST_NAME", "DIGITS", "SMALL_LETTERS", "split_text", "made_of", "number_of", "is_name", "check_count", "due_line", "any_number", "read_number", "read_name", "read_choice", "MOST_STATES", "HEAD_LINES", "FLAGS", "STATE_COUNTS", "Scheme", "read_protocol", "read_state", "read_row", "_law_cell"]
def loose1 : List PySem.Str := ["_law_mix", "_law_draws", "_law_number", "_law_same", "_law_merge", "_law_value", "_law_sharing", "_law_table_text", "_law_table", "_law_others", "_law_cache_load", "_law_cache_store", "_law_cache_leave", "_law_lines", "_law_told_caches", "_law_emptied", "_law_protocol", "_law_accesses", "_law_answer", "_law_own", "_law_stands", "_law_copies", "_law_ended"]
abbrev loose : List PySem.Str := loose0 ++ loose1
abbrev R : PySem.W.OpenRow := PySem.W.OpenLaw.row PySem.Challenge.rw_coremill_k21_words_apart
abbrev hk : PySem.W.Hook := He.hookX 5 fa fn [] [] ex
def ob (s : PySem.W.SharedT) : He.AlX := He.obsX 5 fa fn [] [] ex (HandSHeadRun.getT s)
theorem ob_eq (s : PySem.W.SharedT) : ob s = hk.obs s.abs := He.obsX_eq (HandSHeadRun.getT_eq s)
theorem run (w : World) : HandSHeadRun.RunEq R (PySem.W.view R.prog [58]) hk ob 3000 loose w := by
  intro os
  kernel_rfl
def en (K : PySem.W.Frag) : En := ⟨K, He.ga K "Caches", He.ga K "Scheme", He.ga K "FLAGS", He.ga K "STATE_COUNTS"⟩
section
variable {K : PySem.W.Frag} {h : Heap} {mg : Str → Option Value}
theorem txt (X : K.In h) (G : h.Ns mainGlobals mg) (c : He.SaysD fa fn K) : Txt (en K) mg := ⟨He.free_ok X G (c.fact 0 (f := .free "abs") rfl),
  He.free_ok X G (c.fact 1 (f := .free "bool") rfl),
  He.free_ok X G (c.fact 2 (f := .free "enumerate") rfl),
  He.free_ok X G (c.fact 3 (f := .free "int") rfl),
  He.free_ok X G (c.fact 4 (f := .free "isinstance") rfl),
  He.free_ok X G (c.fact 5 (f := .free "len") rfl),
  He.free_ok X G (c.fact 6 (f := .free "list") rfl),
  He.free_ok X G (c.fact 7 (f := .free "range") rfl),
  He.free_ok X G (c.fact 8 (f := .free "str") rfl),
  He.free_ok X G (c.fact 9 (f := .free "tuple") rfl),
  (let ⟨t, e⟩ := He.int_ok X G (c.fact 10 (f := .int "BYTE" 255) rfl); ⟨_, e, t, rfl⟩),
  (let ⟨t, e⟩ := He.str_ok X G (c.fact 11 (f := .str "DIGITS" "0123456789") rfl); ⟨_, e, t, rfl⟩),
  ⟨_, He.glo_ok X G (c.fact 12 (f := .glo "FLAGS") rfl), rfl⟩,
  (let ⟨t, e⟩ := He.int_ok X G (c.fact 13 (f := .int "HEAD_LINES" 6) rfl); ⟨_, e, t, rfl⟩),
  (let ⟨t, e⟩ := He.int_ok X G (c.fact 14 (f := .int "LONGEST_NAME" 12) rfl); ⟨_, e, t, rfl⟩),
  (let ⟨t, e⟩ := He.int_ok X G (c.fact 15 (f := .int "MOST_LINES" 4000) rfl); ⟨_, e, t, rfl⟩),
  (let ⟨t, e⟩ := He.int_ok X G (c.fact 16 (f := .int "MOST_SIGNS" 120) rfl); ⟨_, e, t, rfl⟩),
  (let ⟨t, e⟩ := He.int_ok X G (c.fact 17 (f := .int "MOST_STATES" 4) rfl); ⟨_, e, t, rfl⟩),
  (let ⟨t, e⟩ := He.str_ok X G (c.fact 18 (f := .str "SMALL_LETTERS" "abcdefghijklmnopqrstuvwxyz") rfl); ⟨_, e, t, rfl⟩),
  ⟨_, He.glo_ok X G (c.fact 19 (f := .glo "STATE_COUNTS") rfl), rfl⟩⟩
theorem tx (c : He.SaysD fa fn K) (x : ex K = true) : Tx (en K) := by
  have x2 : (He.tupB K "FLAGS" [.str "giveread", .str "cleanread", .str "givesteal", .str "cleansteal", .str "back"] && He.tupB K "STATE_COUNTS" [.int 5, .int 6, .int 7, .int 8, .int 9, .int 10]) = true := x
  simp only [Bool.and_eq_true] at x2
  obtain ⟨q0, q1⟩ := x2
  exact ⟨He.cls_ok (c.fact 21 (f := .cls "Caches") rfl),
    He.cls_ok (c.fact 23 (f := .cls "Scheme") rfl),
    He.noat_ok (c.fact 24 (f := .noat "Caches" "copies") rfl),
    He.noat_ok (c.fact 25 (f := .noat "Caches" "memory") rfl),
    He.noat_ok (c.fact 26 (f := .noat "Caches" "protocol") rfl),
    He.noat_ok (c.fact 27 (f := .noat "Caches" "states") rfl),
    He.noat_ok (c.fact 28 (f := .noat "Scheme" "cleanread") rfl),
    He.noat_ok (c.fact 29 (f := .noat "Scheme" "cleansteal") rfl),
    He.noat_ok (c.fact 30 (f := .noat "Scheme" "giveread") rfl),
    He.noat_ok (c.fact 31 (f := .noat "Scheme" "givesteal") rfl),
    He.noat_ok (c.fact 32 (f := .noat "Scheme" "lone") rfl),
    He.noat_ok (c.fact 33 (f := .noat "Scheme" "name") rfl),
    He.noat_ok (c.fact 34 (f := .noat "Scheme" "onread") rfl),
    He.noat_ok (c.fact 35 (f := .noat "Scheme" "onsteal") rfl),
    He.noat_ok (c.fact 36 (f := .noat "Scheme" "own") rfl),
    He.noat_ok (c.fact 37 (f := .noat "Scheme" "shared") rfl),
    He.noat_ok (c.fact 38 (f := .noat "Scheme" "states") rfl),
    He.noat_ok (c.fact 39 (f := .noat "Scheme" "through") rfl),
    He.noat_ok (c.fact 40 (f := .noat "Scheme" "write") rfl),
    He.noat_ok (c.fact 41 (f := .noat "Scheme" "writeback") rfl),
    He.tupB_ok (x := "FLAGS") (vs := [.str "giveread", .str "cleanread", .str "givesteal", .str "cleansteal", .str "back"]) q0,
    He.tupB_ok (x := "STATE_COUNTS") (vs := [.int 5, .int 6, .int 7, .int 8, .int 9, .int 10]) q1⟩
theorem fu_merge (c : He.SaysD fa fn K) : ∃ fd, FunD K "merge" "merge" (defArgs s_merge) (defBody s_merge) (defScope s_merge) [] [] (He.fAd K h_merge.at_) fd := c.def_ 0 (d := h_merge) rfl
theorem gl_merge (X : K.In h) (G : h.Ns mainGlobals mg) (c : He.SaysD fa fn K) : mg "merge" = some (.ref (He.fAd K h_merge.at_)) := He.glo_ok X G (c.fact 42 (f := .glo "merge") rfl)
theorem fu_Caches___init__ (c : He.SaysD fa fn K) : ∃ fd, FunD K "__init__" "Caches.__init__" (defArgs s_Caches___init__) (defBody s_Caches___init__) (defScope s_Caches___init__) [] [] (He.fAd K h_Caches___init__.at_) fd := c.def_ 1 (d := h_Caches___init__) rfl
theorem mk_Caches___init__ (c : He.SaysD fa fn K) : Mk K (He.ga K "Caches") (He.fAd K h_Caches___init__.at_) := He.mkr_ok (c.fact 43 (f := .mkr "Caches") rfl)
theorem gc_Caches___init__ (X : K.In h) (G : h.Ns mainGlobals mg) (c : He.SaysD fa fn K) : mg "Caches" = some (.ref (He.ga K "Caches")) := He.glo_ok X G (c.fact 20 (f := .glo "Caches") rfl)
theorem fu_Caches_others (c : He.SaysD fa fn K) : ∃ fd, FunD K "others" "Caches.others" (defArgs s_Caches_others) (defBody s_Caches_others) (defScope s_Caches_others) [] [] (He.fAd K h_Caches_others.at_) fd := c.def_ 2 (d := h_Caches_others) rfl
theorem me_Caches_others (c : He.SaysD fa fn K) : Meth K (He.ga K "Caches") "others" (He.fAd K h_Caches_others.at_) := He.meth_ok (c.fact 44 (f := .meth "Caches" "others") rfl)
theorem fu_Caches_clean (c : He.SaysD fa fn K) : ∃ fd, FunD K "clean" "Caches.clean" (defArgs s_Caches_clean) (defBody s_Caches_clean) (defScope s_Caches_clean) [] [] (He.fAd K h_Caches_clean.at_) fd := c.def_ 3 (d := h_Caches_clean) rfl
theorem me_Caches_clean (c : He.SaysD fa fn K) : Meth K (He.ga K "Caches") "clean" (He.fAd K h_Caches_clean.at_) := He.meth_ok (c.fact 45 (f := .meth "Caches" "clean") rfl)
theorem fu_Caches_fetched (c : He.SaysD fa fn K) : ∃ fd, FunD K "fetched" "Caches.fetched" (defArgs s_Caches_fetched) (defBody s_Caches_fetched) (defScope s_Caches_fetched) [] [] (He.fAd K h_Caches_fetched.at_) fd := c.def_ 4 (d := h_Caches_fetched) rfl
theorem me_Caches_fetched (c : He.SaysD fa fn K) : Meth K (He.ga K "Caches") "fetched" (He.fAd K h_Caches_fetched.at_) := He.meth_ok (c.fact 46 (f := .meth "Caches" "fetched") rfl)
theorem fu_Caches_move (c : He.SaysD fa fn K) : ∃ fd, FunD K "move" "Caches.move" (defArgs s_Caches_move) (defBody s_Caches_move) (defScope s_Caches_move) [] [] (He.fAd K h_Caches_move.at_) fd := c.def_ 5 (d := h_Caches_move) rfl
theorem me_Caches_move (c : He.SaysD fa fn K) : Meth K (He.ga K "Caches") "move" (He.fAd K h_Caches_move.at_) := He.meth_ok (c.fact 47 (f := .meth "Caches" "move") rfl)
theorem fu_Caches_load (c : He.SaysD fa fn K) : ∃ fd, FunD K "load" "Caches.load" (defArgs s_Caches_load) (defBody s_Caches_load) (defScope s_Caches_load) [] [] (He.fAd K h_Caches_load.at_) fd := c.def_ 6 (d := h_Caches_load) rfl
theorem me_Caches_load (c : He.SaysD fa fn K) : Meth K (He.ga K "Caches") "load" (He.fAd K h_Caches_load.at_) := He.meth_ok (c.fact 48 (f := .meth "Caches" "load") rfl)
theorem fu_Caches_steal (c : He.SaysD fa fn K) : ∃ fd, FunD K "steal" "Caches.steal" (defArgs s_Caches_steal) (defBody s_Caches_steal) (defScope s_Caches_steal) [] [] (He.fAd K h_Caches_steal.at_) fd := c.def_ 7 (d := h_Caches_steal) rfl
theorem me_Caches_steal (c : He.SaysD fa fn K) : Meth K (He.ga K "Caches") "steal" (He.fAd K h_Caches_steal.at_) := He.meth_ok (c.fact 49 (f := .meth "Caches" "steal") rfl)
theorem fu_Caches_store (c : He.SaysD fa fn K) : ∃ fd, FunD K "store" "Caches.store" (defArgs s_Caches_store) (defBody s_Caches_store) (defScope s_Caches_store) [] [] (He.fAd K h_Caches_store.at_) fd := c.def_ 8 (d := h_Caches_store) rfl
theorem me_Caches_store (c : He.SaysD fa fn K) : Meth K (He.ga K "Caches") "store" (He.fAd K h_Caches_store.at_) := He.meth_ok (c.fact 50 (f := .meth "Caches" "store") rfl)
theorem fu_Caches_leave (c : He.SaysD fa fn K) : ∃ fd, FunD K "leave" "Caches.leave" (defArgs s_Caches_leave) (defBody s_Caches_leave) (defScope s_Caches_leave) [] [] (He.fAd K h_Caches_leave.at_) fd := c.def_ 9 (d := h_Caches_leave) rfl
theorem me_Caches_leave (c : He.SaysD fa fn K) : Meth K (He.ga K "Caches") "leave" (He.fAd K h_Caches_leave.at_) := He.meth_ok (c.fact 51 (f := .meth "Caches" "leave") rfl)
theorem fu_Caches_state_of (c : He.SaysD fa fn K) : ∃ fd, FunD K "state_of" "Caches.state_of" (defArgs s_Caches_state_of) (defBody s_Caches_state_of) (defScope s_Caches_state_of) [] [] (He.fAd K h_Caches_state_of.at_) fd := c.def_ 10 (d := h_Caches_state_of) rfl
theorem me_Caches_state_of (c : He.SaysD fa fn K) : Meth K (He.ga K "Caches") "state_of" (He.fAd K h_Caches_state_of.at_) := He.meth_ok (c.fact 52 (f := .meth "Caches" "state_of") rfl)
theorem fu_Caches_copy_of (c : He.SaysD fa fn K) : ∃ fd, FunD K "copy_of" "Caches.copy_of" (defArgs s_Caches_copy_of) (defBody s_Caches_copy_of) (defScope s_Caches_copy_of) [] [] (He.fAd K h_Caches_copy_of.at_) fd := c.def_ 11 (d := h_Caches_copy_of) rfl
theorem me_Caches_copy_of (c : He.SaysD fa fn K) : Meth K (He.ga K "Caches") "copy_of" (He.fAd K h_Caches_copy_of.at_) := He.meth_ok (c.fact 53 (f := .meth "Caches" "copy_of") rfl)
theorem fu_Caches_told (c : He.SaysD fa fn K) : ∃ fd, FunD K "told" "Caches.told" (defArgs s_Caches_told) (defBody s_Caches_told) (defScope s_Caches_told) [] [] (He.fAd K h_Caches_told.at_) fd := c.def_ 12 (d := h_Caches_told) rfl
theorem me_Caches_told (c : He.SaysD fa fn K) : Meth K (He.ga K "Caches") "told" (He.fAd K h_Caches_told.at_) := He.meth_ok (c.fact 54 (f := .meth "Caches" "told") rfl)
theorem fu_Caches_emptied (c : He.SaysD fa fn K) : ∃ fd, FunD K "emptied" "Caches.emptied" (defArgs s_Caches_emptied) (defBody s_Caches_emptied) (defScope s_Caches_emptied) [] [] (He.fAd K h_Caches_emptied.at_) fd := c.def_ 13 (d := h_Caches_emptied) rfl
theorem me_Caches_emptied (c : He.SaysD fa fn K) : Meth K (He.ga K "Caches") "emptied" (He.fAd K h_Caches_emptied.at_) := He.meth_ok (c.fact 55 (f := .meth "Caches" "emptied") rfl)
theorem fu_Caches_copy (c : He.SaysD fa fn K) : ∃ fd, FunD K "copy" "Caches.copy" (defArgs s_Caches_copy) (defBody s_Caches_copy) (defScope s_Caches_copy) [] [] (He.fAd K h_Caches_copy.at_) fd := c.def_ 14 (d := h_Caches_copy) rfl
theorem me_Caches_copy (c : He.SaysD fa fn K) : Meth K (He.ga K "Caches") "copy" (He.fAd K h_Caches_copy.at_) := He.meth_ok (c.fact 56 (f := .meth "Caches" "copy") rfl)
theorem fu_split_text (c : He.SaysD fa fn K) : ∃ fd, FunD K "split_text" "split_text" (defArgs s_split_text) (defBody s_split_text) (defScope s_split_text) [] [] (He.fAd K h_split_text.at_) fd := c.def_ 15 (d := h_split_text) rfl
theorem gl_split_text (X : K.In h) (G : h.Ns mainGlobals mg) (c : He.SaysD fa fn K) : mg "split_text" = some (.ref (He.fAd K h_split_text.at_)) := He.glo_ok X G (c.fact 57 (f := .glo "split_text") rfl)
theorem fu_made_of (c : He.SaysD fa fn K) : ∃ fd, FunD K "made_of" "made_of" (defArgs s_made_of) (defBody s_made_of) (defScope s_made_of) [] [] (He.fAd K h_made_of.at_) fd := c.def_ 16 (d := h_made_of) rfl
theorem gl_made_of (X : K.In h) (G : h.Ns mainGlobals mg) (c : He.SaysD fa fn K) : mg "made_of" = some (.ref (He.fAd K h_made_of.at_)) := He.glo_ok X G (c.fact 58 (f := .glo "made_of") rfl)
theorem fu_number_of (c : He.SaysD fa fn K) : ∃ fd, FunD K "number_of" "number_of" (defArgs s_number_of) (defBody s_number_of) (defScope s_number_of) [] [] (He.fAd K h_number_of.at_) fd := c.def_ 17 (d := h_number_of) rfl
theorem gl_number_of (X : K.In h) (G : h.Ns mainGlobals mg) (c : He.SaysD fa fn K) : mg "number_of" = some (.ref (He.fAd K h_number_of.at_)) := He.glo_ok X G (c.fact 59 (f := .glo "number_of") rfl)
theorem fu_is_name (c : He.SaysD fa fn K) : ∃ fd, FunD K "is_name" "is_name" (defArgs s_is_name) (defBody s_is_name) (defScope s_is_name) [] [] (He.fAd K h_is_name.at_) fd := c.def_ 18 (d := h_is_name) rfl
theorem gl_is_name (X : K.In h) (G : h.Ns mainGlobals mg) (c : He.SaysD fa fn K) : mg "is_name" = some (.ref (He.fAd K h_is_name.at_)) := He.glo_ok X G (c.fact 60 (f := .glo "is_name") rfl)
theorem fu_check_count (c : He.SaysD fa fn K) : ∃ fd, FunD K "check_count" "check_count" (defArgs s_check_count) (defBody s_check_count) (defScope s_check_count) [] [] (He.fAd K h_check_count.at_) fd := c.def_ 19 (d := h_check_count) rfl
theorem gl_check_count (X : K.In h) (G : h.Ns mainGlobals mg) (c : He.SaysD fa fn K) : mg "check_count" = some (.ref (He.fAd K h_check_count.at_)) := He.glo_ok X G (c.fact 61 (f := .glo "check_count") rfl)
theorem fu_due_line (c : He.SaysD fa fn K) : ∃ fd, FunD K "due_line" "due_line" (defArgs s_due_line) (defBody s_due_line) (defScope s_due_line) [] [] (He.fAd K h_due_line.at_) fd := c.def_ 20 (d := h_due_line) rfl
theorem gl_due_line (X : K.In h) (G : h.Ns mainGlobals mg) (c : He.SaysD fa fn K) : mg "due_line" = some (.ref (He.fAd K h_due_line.at_)) := He.glo_ok X G (c.fact 62 (f := .glo "due_line") rfl)
theorem fu_any_number (c : He.SaysD fa fn K) : ∃ fd, FunD K "any_number" "any_number" (defArgs s_any_number) (defBody s_any_number) (defScope s_any_number) [] [] (He.fAd K h_any_number.at_) fd := c.def_ 21 (d := h_any_number) rfl
theorem gl_any_number (X : K.In h) (G : h.Ns mainGlobals mg) (c : He.SaysD fa fn K) : mg "any_number" = some (.ref (He.fAd K h_any_number.at_)) := He.glo_ok X G (c.fact 63 (f := .glo "any_number") rfl)
theorem fu_read_number (c : He.SaysD fa fn K) : ∃ fd, FunD K "read_number" "read_number" (defArgs s_read_number) (defBody s_read_number) (defScope s_read_number) [] [] (He.fAd K h_read_number.at_) fd := c.def_ 22 (d := h_read_number) rfl
theorem gl_read_number (X : K.In h) (G : h.Ns mainGlobals mg) (c : He.SaysD fa fn K) : mg "read_number" = some (.ref (He.fAd K h_read_number.at_)) := He.glo_ok X G (c.fact 64 (f := .glo "read_number") rfl)
theorem fu_read_name (c : He.SaysD fa fn K) : ∃ fd, FunD K "read_name" "read_name" (defArgs s_read_name) (defBody s_read_name) (defScope s_read_name) [] [] (He.fAd K h_read_name.at_) fd := c.def_ 23 (d := h_read_name) rfl
theorem gl_read_name (X : K.In h) (G : h.Ns mainGlobals mg) (c : He.SaysD fa fn K) : mg "read_name" = some (.ref (He.fAd K h_read_name.at_)) := He.glo_ok X G (c.fact 65 (f := .glo "read_name") rfl)
theorem fu_read_choice (c : He.SaysD fa fn K) : ∃ fd, FunD K "read_choice" "read_choice" (defArgs s_read_choice) (defBody s_read_choice) (defScope s_read_choice) [] [] (He.fAd K h_read_choice.at_) fd := c.def_ 24 (d := h_read_choice) rfl
theorem gl_read_choice (X : K.In h) (G : h.Ns mainGlobals mg) (c : He.SaysD fa fn K) : mg "read_choice" = some (.ref (He.fAd K h_read_choice.at_)) := He.glo_ok X G (c.fact 66 (f := .glo "read_choice") rfl)
theorem fu_Scheme___init__ (c : He.SaysD fa fn K) : ∃ fd, FunD K "__init__" "Scheme.__init__" (defArgs s_Scheme___init__) (defBody s_Scheme___init__) (defScope s_Scheme___init__) [] [] (He.fAd K h_Scheme___init__.at_) fd := c.def_ 25 (d := h_Scheme___init__) rfl
theorem mk_Scheme___init__ (c : He.SaysD fa fn K) : Mk K (He.ga K "Scheme") (He.fAd K h_Scheme___init__.at_) := He.mkr_ok (c.fact 67 (f := .mkr "Scheme") rfl)
theorem gc_Scheme___init__ (X : K.In h) (G : h.Ns mainGlobals mg) (c : He.SaysD fa fn K) : mg "Scheme" = some (.ref (He.ga K "Scheme")) := He.glo_ok X G (c.fact 22 (f := .glo "Scheme") rfl)
theorem fu_read_protocol (c : He.SaysD fa fn K) : ∃ fd, FunD K "read_protocol" "read_protocol" (defArgs s_read_protocol) (defBody s_read_protocol) (defScope s_read_protocol) [] [] (He.fAd K h_read_protocol.at_) fd := c.def_ 26 (d := h_read_protocol) rfl
theorem gl_read_protocol (X : K.In h) (G : h.Ns mainGlobals mg) (c : He.SaysD fa fn K) : mg "read_protocol" = some (.ref (He.fAd K h_read_protocol.at_)) := He.glo_ok X G (c.fact 68 (f := .glo "read_protocol") rfl)
theorem fu_read_state (c : He.SaysD fa fn K) : ∃ fd, FunD K "read_state" "read_state" (defArgs s_read_state) (defBody s_read_state) (defScope s_read_state) [] [] (He.fAd K h_read_state.at_) fd := c.def_ 27 (d := h_read_state) rfl
theorem gl_read_state (X : K.In h) (G : h.Ns mainGlobals mg) (c : He.SaysD fa fn K) : mg "read_state" = some (.ref (He.fAd K h_read_state.at_)) := He.glo_ok X G (c.fact 69 (f := .glo "read_state") rfl)
theorem fu_read_row (c : He.SaysD fa fn K) : ∃ fd, FunD K "read_row" "read_row" (defArgs s_read_row) (defBody s_read_row) (defScope s_read_row) [] [] (He.fAd K h_read_row.at_) fd := c.def_ 28 (d := h_read_row) rfl
theorem gl_read_row (X : K.In h) (G : h.Ns mainGlobals mg) (c : He.SaysD fa fn K) : mg "read_row" = some (.ref (He.fAd K h_read_row.at_)) := He.glo_ok X G (c.fact 70 (f := .glo "read_row") rfl)
theorem fu_law_cell (c : He.SaysD fa fn K) : ∃ fd, FunD K "_law_cell" "_law_cell" (defArgs s_law_cell) (defBody s_law_cell) (defScope s_law_cell) [] [] (He.fAd K h_law_cell.at_) fd := c.def_ 29 (d := h_law_cell) rfl
theorem gl_law_cell (X : K.In h) (G : h.Ns mainGlobals mg) (c : He.SaysD fa fn K) : mg "_law_cell" = some (.ref (He.fAd K h_law_cell.at_)) := He.glo_ok X G (c.fact 71 (f := .glo "_law_cell") rfl)
theorem fu_law_mix (c : He.SaysD fa fn K) : ∃ fd, FunD K "_law_mix" "_law_mix" (defArgs s_law_mix) (defBody s_law_mix) (defScope s_law_mix) [] [] (He.fAd K h_law_mix.at_) fd := c.def_ 30 (d := h_law_mix) rfl
theorem gl_law_mix (X : K.In h) (G : h.Ns mainGlobals mg) (c : He.SaysD fa fn K) : mg "_law_mix" = some (.ref (He.fAd K h_law_mix.at_)) := He.glo_ok X G (c.fact 72 (f := .glo "_law_mix") rfl)
theorem fu_law_draws (c : He.SaysD fa fn K) : ∃ fd, FunD K "_law_draws" "_law_draws" (defArgs s_law_draws) (defBody s_law_draws) (defScope s_law_draws) [] [] (He.fAd K h_law_draws.at_) fd := c.def_ 31 (d := h_law_draws) rfl
theorem gl_law_draws (X : K.In h) (G : h.Ns mainGlobals mg) (c : He.SaysD fa fn K) : mg "_law_draws" = some (.ref (He.fAd K h_law_draws.at_)) := He.glo_ok X G (c.fact 73 (f := .glo "_law_draws") rfl)
theorem fu_law_number (c : He.SaysD fa fn K) : ∃ fd, FunD K "_law_number" "_law_number" (defArgs s_law_number) (defBody s_law_number) (defScope s_law_number) [] [] (He.fAd K h_law_number.at_) fd := c.def_ 32 (d := h_law_number) rfl
theorem gl_law_number (X : K.In h) (G : h.Ns mainGlobals mg) (c : He.SaysD fa fn K) : mg "_law_number" = some (.ref (He.fAd K h_law_number.at_)) := He.glo_ok X G (c.fact 74 (f := .glo "_law_number") rfl)
theorem fu_law_same (c : He.SaysD fa fn K) : ∃ fd, FunD K "_law_same" "_law_same" (defArgs s_law_same) (defBody s_law_same) (defScope s_law_same) [] [] (He.fAd K h_law_same.at_) fd := c.def_ 33 (d := h_law_same) rfl
theorem gl_law_same (X : K.In h) (G : h.Ns mainGlobals mg) (c : He.SaysD fa fn K) : mg "_law_same" = some (.ref (He.fAd K h_law_same.at_)) := He.glo_ok X G (c.fact 75 (f := .glo "_law_same") rfl)
theorem fu_law_merge (c : He.SaysD fa fn K) : ∃ fd, FunD K "_law_merge" "_law_merge" (defArgs s_law_merge) (defBody s_law_merge) (defScope s_law_merge) [] [] (He.fAd K h_law_merge.at_) fd := c.def_ 34 (d := h_law_merge) rfl
theorem gl_law_merge (X : K.In h) (G : h.Ns mainGlobals mg) (c : He.SaysD fa fn K) : mg "_law_merge" = some (.ref (He.fAd K h_law_merge.at_)) := He.glo_ok X G (c.fact 76 (f := .glo "_law_merge") rfl)
theorem fu_law_value (c : He.SaysD fa fn K) : ∃ fd, FunD K "_law_value" "_law_value" (defArgs s_law_value) (defBody s_law_value) (defScope s_law_value) [] [] (He.fAd K h_law_value.at_) fd := c.def_ 35 (d := h_law_value) rfl
theorem gl_law_value (X : K.In h) (G : h.Ns mainGlobals mg) (c : He.SaysD fa fn K) : mg "_law_value" = some (.ref (He.fAd K h_law_value.at_)) := He.glo_ok X G (c.fact 77 (f := .glo "_law_value") rfl)
theorem fu_law_sharing (c : He.SaysD fa fn K) : ∃ fd, FunD K "_law_sharing" "_law_sharing" (defArgs s_law_sharing) (defBody s_law_sharing) (defScope s_law_sharing) [] [] (He.fAd K h_law_sharing.at_) fd := c.def_ 36 (d := h_law_sharing) rfl
theorem gl_law_sharing (X : K.In h) (G : h.Ns mainGlobals mg) (c : He.SaysD fa fn K) : mg "_law_sharing" = some (.ref (He.fAd K h_law_sharing.at_)) := He.glo_ok X G (c.fact 78 (f := .glo "_law_sharing") rfl)
theorem fu_law_table_text (c : He.SaysD fa fn K) : ∃ fd, FunD K "_law_table_text" "_law_table_text" (defArgs s_law_table_text) (defBody s_law_table_text) (defScope s_law_table_text) [] [] (He.fAd K h_law_table_text.at_) fd := c.def_ 37 (d := h_law_table_text) rfl
theorem gl_law_table_text (X : K.In h) (G : h.Ns mainGlobals mg) (c : He.SaysD fa fn K) : mg "_law_table_text" = some (.ref (He.fAd K h_law_table_text.at_)) := He.glo_ok X G (c.fact 79 (f := .glo "_law_table_text") rfl)
theorem fu_law_table (c : He.SaysD fa fn K) : ∃ fd, FunD K "_law_table" "_law_table" (defArgs s_law_table) (defBody s_law_table) (defScope s_law_table) [] [] (He.fAd K h_law_table.at_) fd := c.def_ 38 (d := h_law_table) rfl
theorem gl_law_table (X : K.In h) (G : h.Ns mainGlobals mg) (c : He.SaysD fa fn K) : mg "_law_table" = some (.ref (He.fAd K h_law_table.at_)) := He.glo_ok X G (c.fact 80 (f := .glo "_law_table") rfl)
theorem fu_law_others (c : He.SaysD fa fn K) : ∃ fd, FunD K "_law_others" "_law_others" (defArgs s_law_others) (defBody s_law_others) (defScope s_law_others) [] [] (He.fAd K h_law_others.at_) fd := c.def_ 39 (d := h_law_others) rfl
theorem gl_law_others (X : K.In h) (G : h.Ns mainGlobals mg) (c : He.SaysD fa fn K) : mg "_law_others" = some (.ref (He.fAd K h_law_others.at_)) := He.glo_ok X G (c.fact 81 (f := .glo "_law_others") rfl)
theorem fu_law_cache_load (c : He.SaysD fa fn K) : ∃ fd, FunD K "_law_cache_load" "_law_cache_load" (defArgs s_law_cache_load) (defBody s_law_cache_load) (defScope s_law_cache_load) [] [] (He.fAd K h_law_cache_load.at_) fd := c.def_ 40 (d := h_law_cache_load) rfl
theorem gl_law_cache_load (X : K.In h) (G : h.Ns mainGlobals mg) (c : He.SaysD fa fn K) : mg "_law_cache_load" = some (.ref (He.fAd K h_law_cache_load.at_)) := He.glo_ok X G (c.fact 82 (f := .glo "_law_cache_load") rfl)
theorem fu_law_cache_store (c : He.SaysD fa fn K) : ∃ fd, FunD K "_law_cache_store" "_law_cache_store" (defArgs s_law_cache_store) (defBody s_law_cache_store) (defScope s_law_cache_store) [] [] (He.fAd K h_law_cache_store.at_) fd := c.def_ 41 (d := h_law_cache_store) rfl
theorem gl_law_cache_store (X : K.In h) (G : h.Ns mainGlobals mg) (c : He.SaysD fa fn K) : mg "_law_cache_store" = some (.ref (He.fAd K h_law_cache_store.at_)) := He.glo_ok X G (c.fact 83 (f := .glo "_law_cache_store") rfl)
theorem fu_law_cache_leave (c : He.SaysD fa fn K) : ∃ fd, FunD K "_law_cache_leave" "_law_cache_leave" (defArgs s_law_cache_leave) (defBody s_law_cache_leave) (defScope s_law_cache_leave) [] [] (He.fAd K h_law_cache_leave.at_) fd := c.def_ 42 (d := h_law_cache_leave) rfl
theorem gl_law_cache_leave (X : K.In h) (G : h.Ns mainGlobals mg) (c : He.SaysD fa fn K) : mg "_law_cache_leave" = some (.ref (He.fAd K h_law_cache_leave.at_)) := He.glo_ok X G (c.fact 84 (f := .glo "_law_cache_leave") rfl)
theorem fu_law_lines (c : He.SaysD fa fn K) : ∃ fd, FunD K "_law_lines" "_law_lines" (defArgs s_law_lines) (defBody s_law_lines) (defScope s_law_lines) [] [] (He.fAd K h_law_lines.at_) fd := c.def_ 43 (d := h_law_lines) rfl
theorem gl_law_lines (X : K.In h) (G : h.Ns mainGlobals mg) (c : He.SaysD fa fn K) : mg "_law_lines" = some (.ref (He.fAd K h_law_lines.at_)) := He.glo_ok X G (c.fact 85 (f := .glo "_law_lines") rfl)
theorem fu_law_told_caches (c : He.SaysD fa fn K) : ∃ fd, FunD K "_law_told_caches" "_law_told_caches" (defArgs s_law_told_caches) (defBody s_law_told_caches) (defScope s_law_told_caches) [] [] (He.fAd K h_law_told_caches.at_) fd := c.def_ 44 (d := h_law_told_caches) rfl
theorem gl_law_told_caches (X : K.In h) (G : h.Ns mainGlobals mg) (c : He.SaysD fa fn K) : mg "_law_told_caches" = some (.ref (He.fAd K h_law_told_caches.at_)) := He.glo_ok X G (c.fact 86 (f := .glo "_law_told_caches") rfl)
theorem fu_law_emptied (c : He.SaysD fa fn K) : ∃ fd, FunD K "_law_emptied" "_law_emptied" (defArgs s_law_emptied) (defBody s_law_emptied) (defScope s_law_emptied) [] [] (He.fAd K h_law_emptied.at_) fd := c.def_ 45 (d := h_law_emptied) rfl
theorem gl_law_emptied (X : K.In h) (G : h.Ns mainGlobals mg) (c : He.SaysD fa fn K) : mg "_law_emptied" = some (.ref (He.fAd K h_law_emptied.at_)) := He.glo_ok X G (c.fact 87 (f := .glo "_law_emptied") rfl)
theorem fu_law_protocol (c : He.SaysD fa fn K) : ∃ fd, FunD K "_law_protocol" "_law_protocol" (defArgs s_law_protocol) (defBody s_law_protocol) (defScope s_law_protocol) [] [] (He.fAd K h_law_protocol.at_) fd := c.def_ 46 (d := h_law_protocol) rfl
theorem gl_law_protocol (X : K.In h) (G : h.Ns mainGlobals mg) (c : He.SaysD fa fn K) : mg "_law_protocol" = some (.ref (He.fAd K h_law_protocol.at_)) := He.glo_ok X G (c.fact 88 (f := .glo "_law_protocol") rfl)
theorem fu_law_accesses (c : He.SaysD fa fn K) : ∃ fd, FunD K "_law_accesses" "_law_accesses" (defArgs s_law_accesses) (defBody s_law_accesses) (defScope s_law_accesses) [] [] (He.fAd K h_law_accesses.at_) fd := c.def_ 47 (d := h_law_accesses) rfl
theorem gl_law_accesses (X : K.In h) (G : h.Ns mainGlobals mg) (c : He.SaysD fa fn K) : mg "_law_accesses" = some (.ref (He.fAd K h_law_accesses.at_)) := He.glo_ok X G (c.fact 89 (f := .glo "_law_accesses") rfl)
theorem fu_law_answer (c : He.SaysD fa fn K) : ∃ fd, FunD K "_law_answer" "_law_answer" (defArgs s_law_answer) (defBody s_law_answer) (defScope s_law_answer) [] [] (He.fAd K h_law_answer.at_) fd := c.def_ 48 (d := h_law_answer) rfl
theorem gl_law_answer (X : K.In h) (G : h.Ns mainGlobals mg) (c : He.SaysD fa fn K) : mg "_law_answer" = some (.ref (He.fAd K h_law_answer.at_)) := He.glo_ok X G (c.fact 90 (f := .glo "_law_answer") rfl)
theorem fu_law_own (c : He.SaysD fa fn K) : ∃ fd, FunD K "_law_own" "_law_own" (defArgs s_law_own) (defBody s_law_own) (defScope s_law_own) [] [] (He.fAd K h_law_own.at_) fd := c.def_ 49 (d := h_law_own) rfl
theorem gl_law_own (X : K.In h) (G : h.Ns mainGlobals mg) (c : He.SaysD fa fn K) : mg "_law_own" = some (.ref (He.fAd K h_law_own.at_)) := He.glo_ok X G (c.fact 91 (f := .glo "_law_own") rfl)
theorem fu_law_stands (c : He.SaysD fa fn K) : ∃ fd, FunD K "_law_stands" "_law_stands" (defArgs s_law_stands) (defBody s_law_stands) (defScope s_law_stands) [] [] (He.fAd K h_law_stands.at_) fd := c.def_ 50 (d := h_law_stands) rfl
theorem gl_law_stands (X : K.In h) (G : h.Ns mainGlobals mg) (c : He.SaysD fa fn K) : mg "_law_stands" = some (.ref (He.fAd K h_law_stands.at_)) := He.glo_ok X G (c.fact 92 (f := .glo "_law_stands") rfl)
theorem fu_law_copies (c : He.SaysD fa fn K) : ∃ fd, FunD K "_law_copies" "_law_copies" (defArgs s_law_copies) (defBody s_law_copies) (defScope s_law_copies) [] [] (He.fAd K h_law_copies.at_) fd := c.def_ 51 (d := h_law_copies) rfl
theorem gl_law_copies (X : K.In h) (G : h.Ns mainGlobals mg) (c : He.SaysD fa fn K) : mg "_law_copies" = some (.ref (He.fAd K h_law_copies.at_)) := He.glo_ok X G (c.fact 93 (f := .glo "_law_copies") rfl)
theorem fu_law_ended (c : He.SaysD fa fn K) : ∃ fd, FunD K "_law_ended" "_law_ended" (defArgs s_law_ended) (defBody s_law_ended) (defScope s_law_ended) [] [] (He.fAd K h_law_ended.at_) fd := c.def_ 52 (d := h_law_ended) rfl
theorem gl_law_ended (X : K.In h) (G : h.Ns mainGlobals mg) (c : He.SaysD fa fn K) : mg "_law_ended" = some (.ref (He.fAd K h_law_ended.at_)) := He.glo_ok X G (c.fact 94 (f := .glo "_law_ended") rfl)
theorem fu_law (c : He.SaysD fa fn K) : ∃ fd, FunD K "law" "law" (defArgs s_law) (defBody s_law) (defScope s_law) [] [] (He.fAd K h_law.at_) fd := c.def_ 53 (d := h_law) rfl
theorem gl_law (X : K.In h) (G : h.Ns mainGlobals mg) (c : He.SaysD fa fn K) : mg "law" = some (.ref (He.fAd K h_law.at_)) := He.glo_ok X G (c.fact 95 (f := .glo "law") rfl)
end
end Cm
set_option maxHeartbeats 4000000
namespace Cm
open PySem PySem.Spec PyProof.Rows L2

theorem len_merge {K : PySem.W.Frag} : ∀ vs H Q E, (sp_merge (en K)) vs H Q E → vs.length = (["old", "new", "cover"] : List PySem.Str).length := fun vs H Q E h => by
  obtain ⟨o, n, c, rfl, ho, hn, hc, q⟩ := h
  rfl

theorem len_Caches___init__ {K : PySem.W.Frag} : ∀ vs H Q E, (sp_Caches___init__ (en K)) vs H Q E → vs.length = (["self", "protocol", "count", "memory"] : List PySem.Str).length := fun vs H Q E h => by
  obtain ⟨p, dx, pv, count, words, f, ml, rfl, hp, hml, hc, hw, q⟩ := h
  rfl

theorem len_Caches_others {K : PySem.W.Frag} : ∀ vs H Q E, (sp_Caches_others (en K)) vs H Q E → vs.length = (["self", "c", "word"] : List PySem.Str).length := fun vs H Q E h => by
  obtain ⟨count, words, r, pv, X, c, w, rfl, ca, lw, hc, q⟩ := h
  rfl

theorem len_Caches_clean {K : PySem.W.Frag} : ∀ vs H Q E, (sp_Caches_clean (en K)) vs H Q E → vs.length = (["self", "holders", "word", "cleaning"] : List PySem.Str).length := fun vs H Q E h => by
  obtain ⟨count, words, r, pv, X, hl, fl, w, n, hs, cl, rfl, ca, lw, hh, hf, hk, nh, nf, q⟩ := h
  rfl

theorem len_Caches_fetched {K : PySem.W.Frag} : ∀ vs H Q E, (sp_Caches_fetched (en K)) vs H Q E → vs.length = (["self", "holders", "word", "giving"] : List PySem.Str).length := fun vs H Q E h => by
  obtain ⟨count, words, r, pv, X, hl, fl, w, n, hs, gv, rfl, ca, lw, hh, hf, hk, q⟩ := h
  rfl

theorem len_Caches_move {K : PySem.W.Frag} : ∀ vs H Q E, (sp_Caches_move (en K)) vs H Q E → vs.length = (["self", "c", "word", "state"] : List PySem.Str).length := fun vs H Q E h => by
  obtain ⟨count, words, r, pv, X, k, w, v, rfl, ca, lk, lw, q⟩ := h
  rfl

theorem len_Caches_load {K : PySem.W.Frag} : ∀ vs H Q E, (sp_Caches_load (en K)) vs H Q E → vs.length = (["self", "c", "word"] : List PySem.Str).length := fun vs H Q E h => by
  obtain ⟨count, words, r, pp, pv, X, ⟨ak, c, w, acov, av⟩, ⟨rfl, ka⟩, cp, lc, lw, hc, q⟩ := h
  rfl

theorem len_Caches_steal {K : PySem.W.Frag} : ∀ vs H Q E, (sp_Caches_steal (en K)) vs H Q E → vs.length = (["self", "c", "word"] : List PySem.Str).length := fun vs H Q E h => by
  obtain ⟨count, words, r, sr, p, pv, X, c, w, rfl, cp, lc, lw, hc, q⟩ := h
  rfl

theorem len_Caches_store {K : PySem.W.Frag} : ∀ vs H Q E, (sp_Caches_store (en K)) vs H Q E → vs.length = (["self", "c", "word", "cover", "laid"] : List PySem.Str).length := fun vs H Q E h => by
  obtain ⟨count, words, r, pp, pv, X, ⟨ak, c, w, cov, av⟩, ⟨rfl, ka, hcov, hav⟩, cp, lc, lw, hc, q⟩ := h
  rfl

theorem len_Caches_leave {K : PySem.W.Frag} : ∀ vs H Q E, (sp_Caches_leave (en K)) vs H Q E → vs.length = (["self", "c", "word"] : List PySem.Str).length := fun vs H Q E h => by
  obtain ⟨count, words, r, pp, pv, X, ⟨ak, c, w, cov, av⟩, ⟨rfl, ka⟩, cp, lc, lw, hc, q⟩ := h
  rfl

theorem len_Caches_state_of {K : PySem.W.Frag} : ∀ vs H Q E, (sp_Caches_state_of (en K)) vs H Q E → vs.length = (["self", "c", "word"] : List PySem.Str).length := fun vs H Q E h => by
  obtain ⟨count, words, r, pv, X, k, w, rfl, ca, lk, lw, q⟩ := h
  rfl

theorem len_Caches_copy_of {K : PySem.W.Frag} : ∀ vs H Q E, (sp_Caches_copy_of (en K)) vs H Q E → vs.length = (["self", "c", "word"] : List PySem.Str).length := fun vs H Q E h => by
  obtain ⟨count, words, r, pv, X, k, w, rfl, ca, lk, lw, q⟩ := h
  rfl

theorem len_Caches_told {K : PySem.W.Frag} : ∀ vs H Q E, (sp_Caches_told (en K)) vs H Q E → vs.length = (["self"] : List PySem.Str).length := fun vs H Q E h => by
  obtain ⟨count, words, r, pv, X, rfl, ca, hc, hw, q⟩ := h
  rfl

theorem len_Caches_emptied {K : PySem.W.Frag} : ∀ vs H Q E, (sp_Caches_emptied (en K)) vs H Q E → vs.length = (["self"] : List PySem.Str).length := fun vs H Q E h => by
  obtain ⟨count, words, r, pp, pv, X, rfl, cp, hc, hw, q⟩ := h
  rfl

theorem len_Caches_copy {K : PySem.W.Frag} : ∀ vs H Q E, (sp_Caches_copy (en K)) vs H Q E → vs.length = (["self"] : List PySem.Str).length := fun vs H Q E h => by
  obtain ⟨count, words, r, pv, X, rfl, ca, hc, hw, q⟩ := h
  rfl

theorem len_split_text {K : PySem.W.Frag} : ∀ vs H Q E, (sp_split_text (en K)) vs H Q E → vs.length = (["text"] : List PySem.Str).length := fun vs H Q E h => by
  obtain ⟨ls, rfl, ok, q⟩ := h
  rfl

theorem len_made_of {K : PySem.W.Frag} : ∀ vs H Q E, (sp_made_of (en K)) vs H Q E → vs.length = (["word", "signs"] : List PySem.Str).length := fun vs H Q E h => by
  obtain ⟨x, y, rfl, q⟩ := h
  rfl

theorem len_number_of {K : PySem.W.Frag} : ∀ vs H Q E, (sp_number_of (en K)) vs H Q E → vs.length = (["word"] : List PySem.Str).length := fun vs H Q E h => by
  obtain ⟨d, rfl, hd, q⟩ := h
  rfl

theorem len_is_name {K : PySem.W.Frag} : ∀ vs H Q E, (sp_is_name (en K)) vs H Q E → vs.length = (["word"] : List PySem.Str).length := fun vs H Q E h => by
  obtain ⟨x, rfl, ok, q⟩ := h
  rfl

theorem len_check_count {K : PySem.W.Frag} : ∀ vs H Q E, (sp_check_count (en K)) vs H Q E → vs.length = (["line", "words", "counts"] : List PySem.Str).length := fun vs H Q E h => by
  obtain ⟨i, wl, cl, ws, cs, rfl, hw, hc, hm, q⟩ := h
  rfl

theorem len_due_line {K : PySem.W.Frag} : ∀ vs H Q E, (sp_due_line (en K)) vs H Q E → vs.length = (["lines", "index", "first", "counts"] : List PySem.Str).length := fun vs H Q E h => by
  obtain ⟨a, ls, ta, wa, i, x, l, cl, cs, rfl, sp, hl, hc, hm, q⟩ := h
  rfl

theorem len_any_number {K : PySem.W.Frag} : ∀ vs H Q E, (sp_any_number (en K)) vs H Q E → vs.length = (["line", "word"] : List PySem.Str).length := fun vs H Q E h => by
  obtain ⟨i, d, rfl, hd, q⟩ := h
  rfl

theorem len_read_number {K : PySem.W.Frag} : ∀ vs H Q E, (sp_read_number (en K)) vs H Q E → vs.length = (["line", "word", "least", "most"] : List PySem.Str).length := fun vs H Q E h => by
  obtain ⟨i, lo, hi, d, rfl, hd, h1, h2, q⟩ := h
  rfl

theorem len_read_name {K : PySem.W.Frag} : ∀ vs H Q E, (sp_read_name (en K)) vs H Q E → vs.length = (["line", "word"] : List PySem.Str).length := fun vs H Q E h => by
  obtain ⟨i, x, rfl, ok, q⟩ := h
  rfl

theorem len_read_choice {K : PySem.W.Frag} : ∀ vs H Q E, (sp_read_choice (en K)) vs H Q E → vs.length = (["line", "word", "choices"] : List PySem.Str).length := fun vs H Q E h => by
  obtain ⟨i, x, cl, cs, rfl, hc, hm, q⟩ := h
  rfl

theorem len_Scheme___init__ {K : PySem.W.Frag} : ∀ vs H Q E, (sp_Scheme___init__ (en K)) vs H Q E → vs.length = (["self", "name", "numbers", "through", "rows"] : List PySem.Str).length := fun vs H Q E h => by
  obtain ⟨x, dx, nm, nt, rl, p, ta, fa, rfl, hx, pok, hnt, hrl, hrows, q⟩ := h
  rfl

theorem len_read_protocol {K : PySem.W.Frag} : ∀ vs H Q E, (sp_read_protocol (en K)) vs H Q E → vs.length = (["text"] : List PySem.Str).length := fun vs H Q E h => by
  obtain ⟨nm, p, rfl, hn, ok, q⟩ := h
  rfl

theorem len_read_state {K : PySem.W.Frag} : ∀ vs H Q E, (sp_read_state (en K)) vs H Q E → vs.length = (["lines", "index", "first", "most"] : List PySem.Str).length := fun vs H Q E h => by
  obtain ⟨a, ls, ta, wa, i, x, d, most, rfl, sp, hl, h1, hd, h2, q⟩ := h
  rfl

theorem len_read_row {K : PySem.W.Frag} : ∀ vs H Q E, (sp_read_row (en K)) vs H Q E → vs.length = (["lines", "state", "states"] : List PySem.Str).length := fun vs H Q E h => by
  obtain ⟨a, nm, p, ta, wa, s, rfl, sp, pok, hs, q⟩ := h
  rfl

theorem len_law_cell {K : PySem.W.Frag} : ∀ vs H Q E, (sp_law_cell (en K)) vs H Q E → vs.length = (["script", "k"] : List PySem.Str).length := fun vs H Q E h => by
  obtain ⟨a, ns, k, rfl, ha, q⟩ := h
  rfl

theorem len_law_mix {K : PySem.W.Frag} : ∀ vs H Q E, (sp_law_mix (en K)) vs H Q E → vs.length = (["cell", "k"] : List PySem.Str).length := fun vs H Q E h => by
  obtain ⟨i, j, rfl, q⟩ := h
  rfl

theorem len_law_draws {K : PySem.W.Frag} : ∀ vs H Q E, (sp_law_draws (en K)) vs H Q E → vs.length = (["cell", "count", "base"] : List PySem.Str).length := fun vs H Q E h => by
  obtain ⟨cell, count, base, rfl, hc, b0, b1, q⟩ := h
  rfl

theorem len_law_number {K : PySem.W.Frag} : ∀ vs H Q E, (sp_law_number (en K)) vs H Q E → vs.length = (["x"] : List PySem.Str).length := fun vs H Q E h => by
  obtain ⟨i, rfl, q⟩ := h
  rfl

theorem len_law_same {K : PySem.W.Frag} {n : Nat} : ∀ vs H Q E, (sp_same (en K) n) vs H Q E → vs.length = (["told", "due"] : List PySem.Str).length := fun vs H Q E h => by
  obtain ⟨x, y, d, rfl, _⟩ := h
  rfl

theorem len_law_merge {K : PySem.W.Frag} : ∀ vs H Q E, (sp_law_merge (en K)) vs H Q E → vs.length = (["old", "new", "cover"] : List PySem.Str).length := fun vs H Q E h => by
  obtain ⟨o, n, c, rfl, ho, hn, hc, q⟩ := h
  rfl

theorem len_law_value {K : PySem.W.Frag} : ∀ vs H Q E, (sp_law_value (en K)) vs H Q E → vs.length = (["x", "top"] : List PySem.Str).length := fun vs H Q E h => by
  obtain ⟨x, top, rfl, h1, h2, q⟩ := h
  rfl

theorem len_law_sharing {K : PySem.W.Frag} : ∀ vs H Q E, (sp_law_sharing (en K)) vs H Q E → vs.length = (["t"] : List PySem.Str).length := fun vs H Q E h => by
  obtain ⟨a, f, rfl, ha, hf, q⟩ := h
  rfl

theorem len_law_table_text {K : PySem.W.Frag} : ∀ vs H Q E, (sp_law_table_text (en K)) vs H Q E → vs.length = (["t"] : List PySem.Str).length := fun vs H Q E h => by
  obtain ⟨a, f, rfl, ha, hf, q⟩ := h
  rfl

theorem len_law_table {K : PySem.W.Frag} : ∀ vs H Q E, (sp_law_table (en K)) vs H Q E → vs.length = (["text"] : List PySem.Str).length := fun vs H Q E h => by
  obtain ⟨nm, p, rfl, hn, ok, q⟩ := h
  rfl

theorem len_law_others {K : PySem.W.Frag} : ∀ vs H Q E, (sp_law_others (en K)) vs H Q E → vs.length = (["p", "line", "c", "clean", "give", "move"] : List PySem.Str).length := fun vs H Q E h => by
  obtain ⟨t, p, count, r, x, c, w, rfl, tp, ln, ok, hc, q⟩ := h
  cases w <;> rfl

theorem len_law_cache_load {K : PySem.W.Frag} : ∀ vs H Q E, (sp_law_cache_load (en K)) vs H Q E → vs.length = (["p", "line", "c"] : List PySem.Str).length := fun vs H Q E h => by
  obtain ⟨count, r, pp, pv, x, ⟨ak, c, w, acov, av⟩, ⟨rfl, ka⟩, tp, ln, ok, lc, hc, q⟩ := h
  rfl

theorem len_law_cache_store {K : PySem.W.Frag} : ∀ vs H Q E, (sp_law_cache_store (en K)) vs H Q E → vs.length = (["p", "line", "c", "cover", "laid"] : List PySem.Str).length := fun vs H Q E h => by
  obtain ⟨count, r, pp, pv, x, ⟨ak, c, w, cov, av⟩, ⟨rfl, ka, hcov, hv⟩, tp, ln, ok, lc, hc, q⟩ := h
  rfl

theorem len_law_cache_leave {K : PySem.W.Frag} : ∀ vs H Q E, (sp_law_cache_leave (en K)) vs H Q E → vs.length = (["p", "line", "c"] : List PySem.Str).length := fun vs H Q E h => by
  obtain ⟨count, r, pp, pv, x, ⟨ak, c, w, cov, av⟩, ⟨rfl, ka⟩, tp, ln, ok, lc, hc, q⟩ := h
  rfl

theorem len_law_lines {K : PySem.W.Frag} : ∀ vs H Q E, (sp_law_lines (en K)) vs H Q E → vs.length = (["memory", "count"] : List PySem.Str).length := fun vs H Q E h => by
  obtain ⟨ml, count, words, f, rfl, hm, hc, hw, q⟩ := h
  rfl

theorem len_law_told_caches {K : PySem.W.Frag} : ∀ vs H Q E, (sp_law_told_caches (en K)) vs H Q E → vs.length = (["lines", "count"] : List PySem.Str).length := fun vs H Q E h => by
  obtain ⟨a, count, words, lr, X, rfl, ⟨hd, at_⟩, hc, hw, q⟩ := h
  rfl

theorem len_law_emptied {K : PySem.W.Frag} : ∀ vs H Q E, (sp_law_emptied (en K)) vs H Q E → vs.length = (["p", "lines", "count"] : List PySem.Str).length := fun vs H Q E h => by
  obtain ⟨a, count, words, lr, pp, pv, X, rfl, ⟨hd, at_⟩, tp, ok, hc, hw, q⟩ := h
  rfl

theorem len_law_protocol {K : PySem.W.Frag} : ∀ vs H Q E, (sp_law_protocol (en K)) vs H Q E → vs.length = (["cell"] : List PySem.Str).length := fun vs H Q E h => by
  obtain ⟨cell, rfl, q1, q2⟩ := h
  rfl

theorem len_law_accesses {K : PySem.W.Frag} : ∀ vs H Q E, (sp_law_accesses (en K)) vs H Q E → vs.length = (["cell", "many", "names", "words"] : List PySem.Str).length := fun vs H Q E h => by
  obtain ⟨cell, many, nl, m, nf, count, words, rfl, hm, hnl, m0, hnf, w0, w1, q⟩ := h
  rfl

theorem len_law_answer {K : PySem.W.Frag} : ∀ vs H Q E, (sp_law_answer (en K)) vs H Q E → vs.length = (["caches", "a", "word"] : List PySem.Str).length := fun vs H Q E h => by
  obtain ⟨count, words, r, pp, pv, X, ⟨ak, c, w0, cov, av⟩, ta, w, rfl, ht, hcov, hv, cp, lc, lw, hc, q⟩ := h
  rfl

theorem len_law_own {K : PySem.W.Frag} : ∀ vs H Q E, (sp_law_own (en K)) vs H Q E → vs.length = (["p", "line", "a"] : List PySem.Str).length := fun vs H Q E h => by
  obtain ⟨ta, count, r, pp, pv, x, ⟨ak, c, w, cov, av⟩, ⟨rfl, ht, hcov, hv⟩, tp, ln, ok, lc, hc, q⟩ := h
  rfl

theorem len_law_stands {K : PySem.W.Frag} : ∀ vs H Q E, (sp_law_stands (en K)) vs H Q E → vs.length = (["caches", "lines", "count", "deep"] : List PySem.Str).length := fun vs H Q E h => by
  obtain ⟨a, count, words, lr, r, pv, X, b, rfl, ca, lg, hc, hw, q⟩ := h
  rfl

theorem len_law_copies {K : PySem.W.Frag} : ∀ vs H Q E, (sp_law_copies (en K)) vs H Q E → vs.length = (["lines"] : List PySem.Str).length := fun vs H Q E h => by
  obtain ⟨a, count, words, lr, X, rfl, ll, hw, q⟩ := h
  rfl

theorem len_law_ended {K : PySem.W.Frag} : ∀ vs H Q E, (sp_law_ended (en K)) vs H Q E → vs.length = (["p", "caches", "parts", "lines", "count"] : List PySem.Str).length := fun vs H Q E h => by
  obtain ⟨count, words, r, pa, la, pr, lr, tt, tv, pp, pv, X, rfl, cp, ps, lg, tp, ht, hc, hw, q⟩ := h
  rfl

theorem len_law {K : PySem.W.Frag} : ∀ vs H Q E, (sp_law (en K)) vs H Q E → vs.length = (["script"] : List PySem.Str).length := fun vs H Q E h => by
  obtain ⟨a, ns, rfl, ha, hlen, q⟩ := h
  rfl

theorem smd0 {d : PyData} (h : smd 0 d) : False := by
  cases d <;> exact h
theorem facts {P : Program} {w : World} {K : PySem.W.Frag} {h : Heap} {mg : Str → Option Value} {f : Addr} (X : K.In h) (G : h.Ns mainGlobals mg) (hfa : mg ("law" : Str) = some (.ref f)) (c : He.SaysD fa fn K) (x : ex K = true) :
    ∃ fd : FuncData, (∀ (s : Shared) (v : Value), BindsTo s fd ⟨[v], []⟩ [("script", v)]) ∧ ∀ base : Heap, K.In base → base.Ns mainGlobals mg → FnOk P w K mg base C8.CX0 16 f fd ["script"] (sp_law (en K)) := by
  have T0 := txt X G c
  have T1 := tx c x
  have e0 := hfa.symm.trans (gl_law X G c)
  cases e0
  obtain ⟨fd_law, F_law⟩ := fu_law c
  have b := FunD.bindsA (ps := ["script"]) F_law fun _ _ _ _ _ _ us hl => match us, hl with | [_], _ => rfl
  refine ⟨fd_law, fun s v => b s [v] rfl, fun base _ _ => ?_⟩

  obtain ⟨fd_merge, F_merge⟩ := fu_merge c

  have c_merge := k_merge (P := P) (w := w) (base := base) (e := en K) T0 F_merge (gl_merge X G c) len_merge (by first | exact p_merge T1 | exact p_merge)

  obtain ⟨fd_Caches___init__, F_Caches___init__⟩ := fu_Caches___init__ c

  have c_Caches___init__ := k_Caches___init__ (P := P) (w := w) (base := base) (e := en K) T0 F_Caches___init__ (gc_Caches___init__ X G c) (mk_Caches___init__ c) len_Caches___init__ (by first | exact p_init T1 | exact p_init)

  obtain ⟨fd_Caches_others, F_Caches_others⟩ := fu_Caches_others c

  have c_Caches_others := k_Caches_others (P := P) (w := w) (base := base) (e := en K) T0 F_Caches_others T1.cl_Caches (me_Caches_others c) len_Caches_others (by first | exact p_others T1 | exact p_others)

  obtain ⟨fd_Caches_clean, F_Caches_clean⟩ := fu_Caches_clean c

  have c_Caches_clean := k_Caches_clean (P := P) (w := w) (base := base) (e := en K) T0 F_Caches_clean T1.cl_Caches (me_Caches_clean c) len_Caches_clean (by first | exact p_clean T1 | exact p_clean)

  obtain ⟨fd_Caches_fetched, F_Caches_fetched⟩ := fu_Caches_fetched c

  have c_Caches_fetched := k_Caches_fetched (P := P) (w := w) (base := base) (e := en K) T0 F_Caches_fetched T1.cl_Caches (me_Caches_fetched c) len_Caches_fetched (by first | exact p_fetched T1 | exact p_fetched)

  obtain ⟨fd_Caches_move, F_Caches_move⟩ := fu_Caches_move c

  have c_Caches_move := k_Caches_move (P := P) (w := w) (base := base) (e := en K) T0 F_Caches_move T1.cl_Caches (me_Caches_move c) len_Caches_move (by first | exact p_move T1 | exact p_move)

  obtain ⟨fd_Caches_load, F_Caches_load⟩ := fu_Caches_load c

  have c_Caches_load := k_Caches_load (P := P) (w := w) (base := base) (e := en K) T0 F_Caches_load T1.cl_Caches (me_Caches_load c) c_Caches_others c_Caches_clean c_Caches_fetched c_Caches_move len_Caches_load (by first | exact p_load T1 | exact p_load)

  obtain ⟨fd_Caches_steal, F_Caches_steal⟩ := fu_Caches_steal c

  have c_Caches_steal := k_Caches_steal (P := P) (w := w) (base := base) (e := en K) T0 F_Caches_steal T1.cl_Caches (me_Caches_steal c) c_Caches_others c_Caches_clean c_Caches_fetched c_Caches_move len_Caches_steal (by first | exact p_steal T1 | exact p_steal)

  obtain ⟨fd_Caches_store, F_Caches_store⟩ := fu_Caches_store c

  have c_Caches_store := k_Caches_store (P := P) (w := w) (base := base) (e := en K) T0 F_Caches_store T1.cl_Caches (me_Caches_store c) c_merge c_Caches_steal len_Caches_store (by first | exact p_store T1 | exact p_store)

  obtain ⟨fd_Caches_leave, F_Caches_leave⟩ := fu_Caches_leave c

  have c_Caches_leave := k_Caches_leave (P := P) (w := w) (base := base) (e := en K) T0 F_Caches_leave T1.cl_Caches (me_Caches_leave c) c_Caches_move len_Caches_leave (by first | exact p_leave T1 | exact p_leave)

  obtain ⟨fd_Caches_state_of, F_Caches_state_of⟩ := fu_Caches_state_of c

  have c_Caches_state_of := k_Caches_state_of (P := P) (w := w) (base := base) (e := en K) T0 F_Caches_state_of T1.cl_Caches (me_Caches_state_of c) len_Caches_state_of (by first | exact p_state_of T1 | exact p_state_of)

  obtain ⟨fd_Caches_copy_of, F_Caches_copy_of⟩ := fu_Caches_copy_of c

  have c_Caches_copy_of := k_Caches_copy_of (P := P) (w := w) (base := base) (e := en K) T0 F_Caches_copy_of T1.cl_Caches (me_Caches_copy_of c) len_Caches_copy_of (by first | exact p_copy_of T1 | exact p_copy_of)

  obtain ⟨fd_Caches_told, F_Caches_told⟩ := fu_Caches_told c

  have c_Caches_told := k_Caches_told (P := P) (w := w) (base := base) (e := en K) T0 F_Caches_told T1.cl_Caches (me_Caches_told c) len_Caches_told (by first | exact p_told T1 | exact p_told)

  obtain ⟨fd_Caches_copy, F_Caches_copy⟩ := fu_Caches_copy c

  have c_Caches_copy := k_Caches_copy (P := P) (w := w) (base := base) (e := en K) T0 F_Caches_copy T1.cl_Caches (me_Caches_copy c) c_Caches___init__ len_Caches_copy (by first | exact p_copy T1 | exact p_copy)

  obtain ⟨fd_Caches_emptied, F_Caches_emptied⟩ := fu_Caches_emptied c

  have c_Caches_emptied := k_Caches_emptied (P := P) (w := w) (base := base) (e := en K) T0 F_Caches_emptied T1.cl_Caches (me_Caches_emptied c) c_Caches_copy c_Caches_leave len_Caches_emptied (by first | exact p_emptied T1 | exact p_emptied)

  obtain ⟨fd_split_text, F_split_text⟩ := fu_split_text c

  have c_split_text := k_split_text (P := P) (w := w) (base := base) (e := en K) T0 F_split_text (gl_split_text X G c) len_split_text (by first | exact p_split_text T1 | exact p_split_text)

  obtain ⟨fd_made_of, F_made_of⟩ := fu_made_of c

  have c_made_of := k_made_of (P := P) (w := w) (base := base) (e := en K) T0 F_made_of (gl_made_of X G c) len_made_of (by first | exact p_made_of T1 | exact p_made_of)

  obtain ⟨fd_number_of, F_number_of⟩ := fu_number_of c

  have c_number_of := k_number_of (P := P) (w := w) (base := base) (e := en K) T0 F_number_of (gl_number_of X G c) c_made_of len_number_of (by first | exact p_number_of T1 | exact p_number_of)

  obtain ⟨fd_is_name, F_is_name⟩ := fu_is_name c

  have c_is_name := k_is_name (P := P) (w := w) (base := base) (e := en K) T0 F_is_name (gl_is_name X G c) c_made_of len_is_name (by first | exact p_is_name T1 | exact p_is_name)

  obtain ⟨fd_check_count, F_check_count⟩ := fu_check_count c

  have c_check_count := k_check_count (P := P) (w := w) (base := base) (e := en K) T0 F_check_count (gl_check_count X G c) len_check_count (by first | exact p_check_count T1 | exact p_check_count)

  obtain ⟨fd_due_line, F_due_line⟩ := fu_due_line c

  have c_due_line := k_due_line (P := P) (w := w) (base := base) (e := en K) T0 F_due_line (gl_due_line X G c) c_check_count len_due_line (by first | exact p_due_line T1 | exact p_due_line)

  obtain ⟨fd_any_number, F_any_number⟩ := fu_any_number c

  have c_any_number := k_any_number (P := P) (w := w) (base := base) (e := en K) T0 F_any_number (gl_any_number X G c) c_number_of len_any_number (by first | exact p_any_number T1 | exact p_any_number)

  obtain ⟨fd_read_number, F_read_number⟩ := fu_read_number c

  have c_read_number := k_read_number (P := P) (w := w) (base := base) (e := en K) T0 F_read_number (gl_read_number X G c) c_any_number len_read_number (by first | exact p_read_number T1 | exact p_read_number)

  obtain ⟨fd_read_name, F_read_name⟩ := fu_read_name c

  have c_read_name := k_read_name (P := P) (w := w) (base := base) (e := en K) T0 F_read_name (gl_read_name X G c) c_is_name len_read_name (by first | exact p_read_name T1 | exact p_read_name)

  obtain ⟨fd_read_choice, F_read_choice⟩ := fu_read_choice c

  have c_read_choice := k_read_choice (P := P) (w := w) (base := base) (e := en K) T0 F_read_choice (gl_read_choice X G c) len_read_choice (by first | exact p_read_choice T1 | exact p_read_choice)

  obtain ⟨fd_Scheme___init__, F_Scheme___init__⟩ := fu_Scheme___init__ c

  have c_Scheme___init__ := k_Scheme___init__ (P := P) (w := w) (base := base) (e := en K) T0 F_Scheme___init__ (gc_Scheme___init__ X G c) (mk_Scheme___init__ c) len_Scheme___init__ (by first | exact p_Scheme___init__ T1 | exact p_Scheme___init__)

  obtain ⟨fd_read_state, F_read_state⟩ := fu_read_state c

  have c_read_state := k_read_state (P := P) (w := w) (base := base) (e := en K) T0 F_read_state (gl_read_state X G c) c_due_line c_read_number len_read_state (by first | exact p_read_state T1 | exact p_read_state)

  obtain ⟨fd_read_row, F_read_row⟩ := fu_read_row c

  have c_read_row := k_read_row (P := P) (w := w) (base := base) (e := en K) T0 F_read_row (gl_read_row X G c) c_due_line c_read_number c_read_choice len_read_row (by first | exact p_read_row T1 | exact p_read_row)

  obtain ⟨fd_read_protocol, F_read_protocol⟩ := fu_read_protocol c

  have c_read_protocol := k_read_protocol (P := P) (w := w) (base := base) (e := en K) T0 F_read_protocol (gl_read_protocol X G c) c_split_text c_due_line c_read_name c_read_state c_read_choice c_read_row c_Scheme___init__ len_read_protocol (by first | exact p_read_protocol T1 | exact p_read_protocol)

  obtain ⟨fd_law_cell, F_law_cell⟩ := fu_law_cell c

  have c_law_cell := k_law_cell (P := P) (w := w) (base := base) (e := en K) T0 F_law_cell (gl_law_cell X G c) len_law_cell (by first | exact p_law_cell T1 | exact p_law_cell)

  obtain ⟨fd_law_mix, F_law_mix⟩ := fu_law_mix c

  have c_law_mix := k_law_mix (P := P) (w := w) (base := base) (e := en K) T0 F_law_mix (gl_law_mix X G c) len_law_mix (by first | exact p_law_mix T1 | exact p_law_mix)

  obtain ⟨fd_law_draws, F_law_draws⟩ := fu_law_draws c

  have c_law_draws := k_law_draws (P := P) (w := w) (base := base) (e := en K) T0 F_law_draws (gl_law_draws X G c) c_law_mix len_law_draws (by first | exact p_law_draws T1 | exact p_law_draws)

  obtain ⟨fd_law_number, F_law_number⟩ := fu_law_number c

  have c_law_number := k_law_number (P := P) (w := w) (base := base) (e := en K) T0 F_law_number (gl_law_number X G c) len_law_number (by first | exact p_law_number T1 | exact p_law_number)

  obtain ⟨fd_law_same, F_law_same⟩ := fu_law_same c

  have r0 : C8.Cal P w K mg base 3 "_law_same" (sp_same (en K) 0) [] := ⟨_, fd_law_same, ["told", "due"], [], (F_law_same.ok (k := 2) sc_law_same len_law_same (fun cdv A outer s H vs Q E hr h => by
    obtain ⟨x, y, d, rfl, hx, hy, hs, q⟩ := h
    exact (smd0 hs).elim)), gl_law_same X G c, F_law_same.kp, (F_law_same.bindsN fun _ _ _ _ _ _ us hl => match us, hl with | [_, _], _ => rfl), .nil⟩

  have r1 : C8.Cal P w K mg base 4 "_law_same" (sp_same (en K) 1) [] := k_law_same T0 F_law_same (gl_law_same X G c) c_law_number (by decide) r0 len_law_same (p_law_same 0)

  have r2 : C8.Cal P w K mg base 5 "_law_same" (sp_same (en K) 2) [] := k_law_same T0 F_law_same (gl_law_same X G c) c_law_number (by decide) r1 len_law_same (p_law_same 1)

  have r3 : C8.Cal P w K mg base 6 "_law_same" (sp_same (en K) 3) [] := k_law_same T0 F_law_same (gl_law_same X G c) c_law_number (by decide) r2 len_law_same (p_law_same 2)

  have r4 : C8.Cal P w K mg base 7 "_law_same" (sp_same (en K) 4) [] := k_law_same T0 F_law_same (gl_law_same X G c) c_law_number (by decide) r3 len_law_same (p_law_same 3)

  have r5 : C8.Cal P w K mg base 8 "_law_same" (sp_same (en K) 5) [] := k_law_same T0 F_law_same (gl_law_same X G c) c_law_number (by decide) r4 len_law_same (p_law_same 4)

  have r6 : C8.Cal P w K mg base 9 "_law_same" (sp_same (en K) 6) [] := k_law_same T0 F_law_same (gl_law_same X G c) c_law_number (by decide) r5 len_law_same (p_law_same 5)

  have r7 : C8.Cal P w K mg base 10 "_law_same" (sp_same (en K) 7) [] := k_law_same T0 F_law_same (gl_law_same X G c) c_law_number (by decide) r6 len_law_same (p_law_same 6)

  have r8 : C8.Cal P w K mg base 11 "_law_same" (sp_same (en K) 8) [] := k_law_same T0 F_law_same (gl_law_same X G c) c_law_number (by decide) r7 len_law_same (p_law_same 7)

  have r9 : C8.Cal P w K mg base 12 "_law_same" (sp_same (en K) 9) [] := k_law_same T0 F_law_same (gl_law_same X G c) c_law_number (by decide) r8 len_law_same (p_law_same 8)

  have r10 : C8.Cal P w K mg base 13 "_law_same" (sp_same (en K) 10) [] := k_law_same T0 F_law_same (gl_law_same X G c) c_law_number (by decide) r9 len_law_same (p_law_same 9)

  have c_law_same : C8.Cal P w K mg base 13 "_law_same" (sp_law_same (en K)) [] := r10

  obtain ⟨fd_law_merge, F_law_merge⟩ := fu_law_merge c

  have c_law_merge := k_law_merge (P := P) (w := w) (base := base) (e := en K) T0 F_law_merge (gl_law_merge X G c) len_law_merge (by first | exact p_law_merge T1 | exact p_law_merge)

  obtain ⟨fd_law_value, F_law_value⟩ := fu_law_value c

  have c_law_value := k_law_value (P := P) (w := w) (base := base) (e := en K) T0 F_law_value (gl_law_value X G c) len_law_value (by first | exact p_law_value T1 | exact p_law_value)

  obtain ⟨fd_law_sharing, F_law_sharing⟩ := fu_law_sharing c

  have c_law_sharing := k_law_sharing (P := P) (w := w) (base := base) (e := en K) T0 F_law_sharing (gl_law_sharing X G c) len_law_sharing (by first | exact p_law_sharing T1 | exact p_law_sharing)

  obtain ⟨fd_law_table_text, F_law_table_text⟩ := fu_law_table_text c

  have c_law_table_text := k_law_table_text (P := P) (w := w) (base := base) (e := en K) T0 F_law_table_text (gl_law_table_text X G c) len_law_table_text (by first | exact p_law_table_text T1 | exact p_law_table_text)

  obtain ⟨fd_law_table, F_law_table⟩ := fu_law_table c

  have c_law_table := k_law_table (P := P) (w := w) (base := base) (e := en K) T0 F_law_table (gl_law_table X G c) len_law_table (by first | exact p_law_table T1 | exact p_law_table)

  obtain ⟨fd_law_others, F_law_others⟩ := fu_law_others c

  have c_law_others := k_law_others (P := P) (w := w) (base := base) (e := en K) T0 F_law_others (gl_law_others X G c) len_law_others (by first | exact p_law_others T1 | exact p_law_others)

  obtain ⟨fd_law_cache_load, F_law_cache_load⟩ := fu_law_cache_load c

  have c_law_cache_load := k_law_cache_load (P := P) (w := w) (base := base) (e := en K) T0 F_law_cache_load (gl_law_cache_load X G c) c_law_others len_law_cache_load (by first | exact p_law_cache_load T1 | exact p_law_cache_load)

  obtain ⟨fd_law_cache_store, F_law_cache_store⟩ := fu_law_cache_store c

  have c_law_cache_store := k_law_cache_store (P := P) (w := w) (base := base) (e := en K) T0 F_law_cache_store (gl_law_cache_store X G c) c_law_merge c_law_others len_law_cache_store (by first | exact p_law_cache_store T1 | exact p_law_cache_store)

  obtain ⟨fd_law_cache_leave, F_law_cache_leave⟩ := fu_law_cache_leave c

  have c_law_cache_leave := k_law_cache_leave (P := P) (w := w) (base := base) (e := en K) T0 F_law_cache_leave (gl_law_cache_leave X G c) len_law_cache_leave (by first | exact p_law_cache_leave T1 | exact p_law_cache_leave)

  obtain ⟨fd_law_lines, F_law_lines⟩ := fu_law_lines c

  have c_law_lines := k_law_lines (P := P) (w := w) (base := base) (e := en K) T0 F_law_lines (gl_law_lines X G c) len_law_lines (by first | exact p_law_lines T1 | exact p_law_lines)

  obtain ⟨fd_law_told_caches, F_law_told_caches⟩ := fu_law_told_caches c

  have c_law_told_caches := k_law_told_caches (P := P) (w := w) (base := base) (e := en K) T0 F_law_told_caches (gl_law_told_caches X G c) len_law_told_caches (by first | exact p_law_told_caches T1 | exact p_law_told_caches)

  obtain ⟨fd_law_emptied, F_law_emptied⟩ := fu_law_emptied c

  have c_law_emptied := k_law_emptied (P := P) (w := w) (base := base) (e := en K) T0 F_law_emptied (gl_law_emptied X G c) c_law_cache_leave len_law_emptied (by first | exact p_law_emptied T1 | exact p_law_emptied)

  obtain ⟨fd_law_protocol, F_law_protocol⟩ := fu_law_protocol c

  have c_law_protocol := k_law_protocol (P := P) (w := w) (base := base) (e := en K) T0 F_law_protocol (gl_law_protocol X G c) c_law_draws c_law_table_text c_law_sharing len_law_protocol (by first | exact p_law_protocol T1 | exact p_law_protocol)

  obtain ⟨fd_law_accesses, F_law_accesses⟩ := fu_law_accesses c

  have c_law_accesses := k_law_accesses (P := P) (w := w) (base := base) (e := en K) T0 F_law_accesses (gl_law_accesses X G c) c_law_draws c_law_value len_law_accesses (by first | exact p_law_accesses T1 | exact p_law_accesses)

  obtain ⟨fd_law_answer, F_law_answer⟩ := fu_law_answer c

  have c_law_answer := k_law_answer (P := P) (w := w) (base := base) (e := en K) T0 F_law_answer (gl_law_answer X G c) c_Caches_load c_Caches_store c_Caches_leave len_law_answer (by first | exact p_law_answer T1 | exact p_law_answer)

  obtain ⟨fd_law_own, F_law_own⟩ := fu_law_own c

  have c_law_own := k_law_own (P := P) (w := w) (base := base) (e := en K) T0 F_law_own (gl_law_own X G c) c_law_cache_load c_law_cache_store c_law_cache_leave len_law_own (by first | exact p_law_own T1 | exact p_law_own)

  obtain ⟨fd_law_stands, F_law_stands⟩ := fu_law_stands c

  have c_law_stands := k_law_stands (P := P) (w := w) (base := base) (e := en K) T0 F_law_stands (gl_law_stands X G c) c_law_told_caches c_law_same c_Caches_told len_law_stands (by first | exact p_law_stands T1 | exact p_law_stands)

  obtain ⟨fd_law_copies, F_law_copies⟩ := fu_law_copies c

  have c_law_copies := k_law_copies (P := P) (w := w) (base := base) (e := en K) T0 F_law_copies (gl_law_copies X G c) len_law_copies (by first | exact p_law_copies T1 | exact p_law_copies)

  obtain ⟨fd_law_ended, F_law_ended⟩ := fu_law_ended c

  have c_law_ended := k_law_ended (P := P) (w := w) (base := base) (e := en K) T0 F_law_ended (gl_law_ended X G c) c_law_emptied c_Caches_emptied c_law_same c_law_stands len_law_ended (by first | exact p_law_ended T1 | exact p_law_ended)

  exact F_law.ok sc_law len_law (fun cdv A outer s H vs Q E hr h => ⟨t_law (en K), PSs.nox (d_law T0 c_law_cell c_law_protocol c_read_protocol c_law_table c_law_draws c_law_value c_Caches___init__ c_law_lines c_law_accesses c_Caches_copy c_law_copies c_law_own c_law_answer c_law_same c_law_stands c_Caches_state_of c_Caches_copy_of c_law_ended hr), p_law T1 vs H Q E h⟩)

end Cm
open PySem PySem.W PySem.Calls PyProof.Rows
theorem PySem.Challenge.cw_coremill_k21_words_apart_holds : PySem.Challenge.rw_coremill_k21_words_apart.Holds := by
  w_on; o_law
  refine HandSHeadRun.head_any (r := OpenLaw.row PySem.Challenge.rw_coremill_k21_words_apart) (q := view (OpenLaw.row PySem.Challenge.rw_coremill_k21_words_apart).prog [58]) (H := Cm.hk) (ob := Cm.ob) (M := 3000) (loose := Cm.loose) (d := HandSHeadRun.topDef (OpenLaw.row PySem.Challenge.rw_coremill_k21_words_apart).prog 58) (kwd := []) Cm.ob_eq
    (by kernel_rfl) (fun s => by kernel_rfl) Cm.run (by kernel_rfl) (by kernel_rfl) (by kernel_rfl) (by rfl) (by first | assumption | decide +kernel) (by decide +kernel) ⟨rfl, rfl, rfl, rfl, rfl, by decide +kernel⟩ ?hw ?hc
  case hw => w_witness2
  case hc =>
    refine L2.walk_ofE (l := PySem.Challenge.rw_coremill_k21_words_apart) (n := 63) (k := 16) (x := "script") (CX := C8.CX0) rfl (by decide) (by kernel_rfl) ⟨rfl, by decide, by decide⟩ ?F (fun _ _ _ _ z => z)
    intro w mg fa h Y G hmg0
    obtain ⟨K, KX, c⟩ := Y
    have hmg : mg ("law" : PySem.Str) = some (.ref fa) := by
      have e : (HandSHeadRun.topDef (OpenLaw.row PySem.Challenge.rw_coremill_k21_words_apart).prog 58).name = ("law" : PySem.Str) := by kernel_rfl
      rw [← e]
      exact hmg0
    obtain ⟨fd, hb, hF⟩ := Cm.facts (P := (PySem.Challenge.rw_coremill_k21_words_apart).prog) (w := w) KX G hmg c.t.d c.more
    exact ⟨K, fd, Cm.sp_law (Cm.en K), KX, hb, fun H a ns hl _ hS => ⟨a, ns, rfl, hS, hl, fun _ => rfl⟩, hF⟩
