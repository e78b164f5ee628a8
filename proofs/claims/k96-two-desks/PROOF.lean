import PyProof.Rows.All
import Wide.All
import OpenK.AllK
import Wide.FinOn
import HandS.ForMost
import HandS.Rev
import HandS.Walk
import PyProof.Draws
import PyProof.EnumMake
import PyProof.DictMoreH
import HandS.SetKeys
import KE.SortData
import HandS.Set
import HandS.TupSets
import HandS.ForExc
import HandS.IsInst
import HandS.Flow
import HandS.Style
import HandS.More
import HandS.Conv
import HandS.Replace
import HandS.StrMore
import HandS.SetFor
import HandS.Defaults
import HandS.HeadHook1
import HandS.HeadHook2
import HandS.Codes
import HandS.WordsDict
import KE.KStateDown
import HandS.Head0
import HandS.Head1
import HandS.Head2
import HandS.HeadEnd
import HandS.ExcIs
import HandS.ExcValue
import HandS.HeadWalk
import PySem.Challenge.RW_backwords_k96_two_desks
set_option Elab.async false
set_option linter.all false
set_option maxRecDepth 100000
set_option maxHeartbeats 1000000
/-! for letter in reversed(a text) -/
namespace BwR
open PySem PySem.Spec PyProof.Rows L2 RT

theorem noRevStr : typeLookup (.type "str") "__reversed__" = pure none := by rw [typeLookup_type, builtinLookup_eq_fast]; kernel_rfl
theorem itemStr : typeLookup (.type "str") "__getitem__" = pure (some (.builtin "str.__getitem__")) := by rw [typeLookup_type, builtinLookup_eq_fast]; kernel_rfl
theorem dictStr : isSubtype (.type "str") (.type "dict") = pure false := by rw [isSubtype_type]; kernel_rfl

/-- the iterator of reversed(a text), i its next place -/
def rvO (z : Str) (t : Tok) (i : Int) : Obj := { cls := .type "reversed", data := .fields #[.str z t, rawInt i] }
def RvAt (h : Heap) (a : Addr) (z : Str) (t : Tok) (i : Int) : Prop := ∃ o, h.get? a = some o ∧ o.cls = .type "reversed" ∧ o.data = .fields #[.str z t, rawInt i]
theorem RvAt.move {h h' : Heap} {a : Addr} {z : Str} {t : Tok} {i : Int} (x : RvAt h a z t i) (e : ∀ o, h.get? a = some o → h'.get? a = some o) : RvAt h' a z t i := by
  obtain ⟨o, ho, r⟩ := x
  exact ⟨o, e _ ho, r⟩
section
variable {prog : Program} {w : World} {A : Around} {E : Value → Shared → Prop} {s : Shared} {z : Str} {t : Tok}
theorem RvAt.isRev {a : Addr} {i : Int} (x : RvAt s.heap a z t i) : s.TypeIs (.ref a) "reversed" := by
  obtain ⟨o, ho, hc, _⟩ := x
  exact ⟨o, ho, hc⟩

theorem newRv {Q₁ : Value → Shared → Prop} (hz : z.length ≤ sizeLine)
    (h : Q₁ (.ref s.heap.objs.size) { s with heap := s.heap.push (rvO z t ((z.length : Int) - 1)), toks := s.toks + 1 + 1 }) :
    codeAny (model prog w) A (.call (.builtin "reversed.__new__") ⟨[.type "reversed", .str z t], []⟩) (wants Q₁ E) s := by
  have hT : s.TypeIs (.str z t) "str" := typeIs_str s z t
  rw [sizeLine_eq] at hz
  refine codeAny_of_tree ?_
  show wpAny _ A.in1 (do checkBuiltinCall "reversed.__new__" ⟨[.type "reversed", .str z t], []⟩; again (.builtin "reversed.__new__" ⟨[.type "reversed", .str z t], []⟩)) _ _ s
  refine wpAny_bind (wpAny_of_eq (F.newCall_reversed_1 _) (wpAny_pure ⟨plainId_quiet F.plain_reversed_new _, codeAny_builtin F.entry_reversed_new ?_⟩))
  rw [Around.under_plainId F.plain_reversed_new _]
  unfold Builtin.«reversed.__new__»
  refine wpAny_bind (wpAny_of_eq (newClass_reversed _) ?_)
  try dsimp only
  refine wpAny_bind (wpAny_of_eq (a := ()) (by first | rfl | kernel_rfl) ?_)
  try dsimp only
  refine wpAny_bind (wpAny_of_eq (a := ()) (by first | rfl | kernel_rfl) ?_)
  try dsimp only
  refine wpAny_bind (wpAny_specialOf hT noRevStr ?_)
  try dsimp only
  refine wpAny_bind ?_
  wp_delta
  refine wpAny_bind (wpAny_isInstance (T := "str") (U := "dict") (b := false) hT dictStr ?_)
  try dsimp only
  try rw [if_neg Bool.false_ne_true]
  try dsimp only
  refine wpAny_bind (wpAny_specialOf hT itemStr ?_)
  try dsimp only
  try rw [if_pos (by decide +kernel)]
  refine wpAny_pure ?_
  try dsimp only
  try rw [if_neg (by decide)]
  try dsimp only
  refine wpAny_bind (PyProof.Rows.len_str (by omega) ?_)
  refine wpAny_bind (wpAny_of_eq (a := some ((z.length : Nat) : Int)) rfl ?_)
  try dsimp only
  refine wpAny_bind ?_
  show wpAny _ _ (newObj (.type "reversed") (.fields #[.str z t, rawInt ((z.length : Int) - 1)])) _ _ _
  refine wpAny_newObj_type ?_
  exact wpAny_pure h

theorem callRv {Q : Value → Shared → Prop} (hz : z.length ≤ sizeLine)
    (h : Q (.ref s.heap.objs.size) { s with heap := s.heap.push (rvO z t ((z.length : Int) - 1)), toks := s.toks + 1 + 1 }) : wpAny (model prog w) A (call (.type "reversed") [.str z t]) Q E s := by
  refine callType_codes (Q₁ := fun obj s₁ => s₁.TypeIs obj "reversed" ∧ Q obj s₁) called_rt (F.typeCall_reversed_1 _) F.entry_object_init
    (newRv (A := A.in1) hz ⟨⟨_, Heap.get?_push_size _ rfl, rfl⟩, h⟩) fun obj s₁ h₁ => ?_
  exact ⟨h₁.1, F.args_object_init_2 obj _, object_init_meets called_rt.init.lookup called_rt.made (by decide) prog w A.in1 _ s₁ ⟨h₁.1, rfl, h₁.2⟩⟩

theorem nextRv {it : Addr} {i c : Nat} {Q : Option Value → Shared → Prop} (hit : RvAt s.heap it z t (i : Int)) (hx : z.cps[i]? = some c) (hz : z.length ≤ sizeLine)
    (hQ : ∀ h' tk, RvAt h' it z t ((i : Int) - 1) → Heap.SameBut it s.heap h' → Q (some (.str ⟨#[c]⟩ (s.toks + 1))) { s with heap := h', toks := tk }) : wpAny (model prog w) A (pyNext (.ref it)) Q E s := by
  obtain ⟨o, ho, hc, hd⟩ := id hit
  have hi : i < z.length := (Array.getElem?_eq_some_iff.mp hx).1
  have hT : s.TypeIs (.str z t) "str" := typeIs_str s z t
  rw [sizeLine_eq] at hz
  unfold pyNext
  refine wpAny_bind (wpAny_attempt (wpAny_callSpecial?_slot (name := Str.ofString "__next__") hit.isRev slot_rt_next
    (wpAny_call_entry slot_rt_next hit.isRev entry_rt_next ?_ (args_rt_next _))))
  unfold Builtin.«reversed.__next__»
  refine wpAny_bind (wpAny_of_eq (a := (Value.ref it, [])) rfl ?_)
  try dsimp only
  refine wpAny_bind (wpAny_field ho hd (x := .str z t) rfl ?_)
  try dsimp only
  refine wpAny_bind (wpAny_field ho hd (x := rawInt (i : Int)) rfl ?_)
  show wpAny _ _ (if (i : Int) < 0 then _ else _) _ _ s
  rw [if_neg (by omega)]
  try dsimp only
  refine wpAny_bind (wpAny_specialOf hT itemStr ?_)
  try dsimp only
  try rw [if_neg (by decide)]
  try dsimp only
  refine wpAny_bind (wpAny_mkInt ?_)
  refine wpAny_bind (wpAny_attempt ?_)
  have fin : seqIndex? (i : Int) z.length = some i := seqIndex_of (by omega) (by omega)
  refine PyProof.Rows.getItem_str (s := { s with toks := s.toks + 1 }) (c := c) (by
    have e1 : decide ((i : Int) < -(2 ^ 63 : Int)) = false := decide_eq_false (by omega)
    have e2 : decide ((i : Int) ≥ 2 ^ 63) = false := decide_eq_false (by omega)
    rw [e1, e2, Bool.or_false]) (by rw [fin]; exact hx) ?_
  try dsimp only
  refine wpAny_bind (wpAny_field (s := { s with toks := s.toks + 1 + 1 }) ho hd (x := rawInt (i : Int)) rfl ?_)
  try dsimp only
  refine wpAny_bind (wpAny_setField (s := { s with toks := s.toks + 1 + 1 }) ho hd (by simp) ?_)
  first
  | refine wpAny_pure ⟨_, rfl, wpAny_pure (hQ _ _ ?_ (Heap.SameBut.update ..))⟩
  | refine wpAny_bind (wpAny_pure (wpAny_pure ⟨_, rfl, wpAny_pure (hQ _ _ ?_ (Heap.SameBut.update ..))⟩))
  exact ⟨_, Heap.get?_update_self _ ho (Obj.isFreed_of_fields (Obj.data_mapFields hd _)), (Obj.cls_mapFields ..).trans hc, by
    rw [Obj.data_mapFields hd]; simp⟩

theorem endRv {it : Addr} {Q : Option Value → Shared → Prop} (hh : A.handled = none) (hit : RvAt s.heap it z t (-1))
    (hQ : ∀ h', Heap.ExtBut it s.heap h' → Q none { s with heap := h' }) : wpAny (model prog w) A (pyNext (.ref it)) Q E s := by
  obtain ⟨o, ho, hc, hd⟩ := id hit
  unfold pyNext
  refine wpAny_bind (wpAny_attempt (wpAny_callSpecial?_slot (name := Str.ofString "__next__") hit.isRev slot_rt_next
    (wpAny_call_entry slot_rt_next hit.isRev entry_rt_next ?_ (args_rt_next _))))
  unfold Builtin.«reversed.__next__»
  refine wpAny_bind (wpAny_of_eq (a := (Value.ref it, [])) rfl ?_)
  try dsimp only
  refine wpAny_bind (wpAny_field ho hd (x := .str z t) rfl ?_)
  try dsimp only
  refine wpAny_bind (wpAny_field ho hd (x := rawInt (-1)) rfl ?_)
  show wpAny _ _ (if (-1 : Int) < 0 then _ else _) _ _ s
  rw [if_pos (by decide)]
  try dsimp only
  refine wpAny_bind (wpAny_rule ?_)
  refine wpAny_bind ?_
  wp_delta
  refine wpAny_bind (wpAny_setField ho hd (by simp) ?_)
  have ho2 := Heap.get?_update_self (Obj.mapFields (·.setIfInBounds 1 (rawInt (-1)))) ho (Obj.isFreed_of_fields (Obj.data_mapFields hd _))
  refine wpAny_setField (s := { s with heap := s.heap.update it (Obj.mapFields (·.setIfInBounds 1 (rawInt (-1)))) }) ho2 (Obj.data_mapFields hd _) (by simp) ?_
  try dsimp only
  first
  | show wpAny _ _ (newExc (.type "StopIteration") [] >>= _) _ _ _
  | (refine wpAny_bind ?_; show wpAny _ _ (newExc (.type "StopIteration") [] >>= _) _ _ _)
  | (refine wpAny_bind ?_; wp_delta; show wpAny _ _ (newExc (.type "StopIteration") [] >>= _) _ _ _)
  refine wpAny_bind ?_
  simp only [newExc, newTuple]
  refine wpAny_bind (wpAny_newObj_type ?_ (by size_fits))
  refine wpAny_bind (m := firstArgMember _ _) (wpAny_of_eq (a := Value.none) (by first | rfl | (simp only [firstArgMember]; rfl)) ?_)
  refine wpAny_newObj_type ?_ (by size_fits)
  simp only [raiseNew]
  refine wpAny_bind (wpAny_handled ?_)
  first | rw [show A.in1.handled = none from hh] | rw [hh]
  refine wpAny_bind (wpAny_pure (wpAny_throw ?_))
  refine wpAny_bind (wpAny_isInstance (T := "StopIteration") (b := true) ⟨_, Heap.get?_push_size _ rfl, rfl⟩ isSubtype_stop ?_)
  refine wpAny_pure (hQ _ ?_)
  refine ((?_ : Heap.ExtBut it s.heap _).push _).push _
  exact fun b ob hb e => (Heap.get?_update_other _ _ (Ne.symm hb)).trans ((Heap.get?_update_other _ _ (Ne.symm hb)).trans e)

theorem iterRv {it : Addr} {i : Int} {Q : Value → Shared → Prop} (hit : RvAt s.heap it z t i) (h : Q (.ref it) s) : wpAny (model prog w) A (pyIter (.ref it)) Q E s := by
  refine wpAny_pyIter_slot hit.isRev slot_rt_iter (wpAny_call_entry slot_rt_iter hit.isRev entry_rt_iter ?_ (args_rt_iter _))
  show wpAny _ _ (ret (.ref it)) _ _ s
  exact wpAny_pure ⟨_, rfl, "reversed", _, hit.isRev, slot_rt_next.lookup, h⟩
end

/-- the signs of a text, the last one first -/
def ItR (z : Str) : It := ⟨fun i _ => i < z.length, fun i H v H' => H' = H ∧ ∃ c, z.cps[z.length - 1 - i]? = some c ∧ v = .str ⟨#[c]⟩, fun i _ => z.length ≤ i⟩
theorem turnR {P : Program} {w : World} {K : PySem.W.Frag} {tg : Expr} (it : Addr) (z : Str) (t : Tok) (hz : z.length ≤ sizeLine) :
    Turn P w K tg (ItR z) [it] it (fun i h => i ≤ z.length ∧ RvAt h it z t ((z.length : Int) - 1 - (i : Nat))) where
  mem := by simp
  obj := fun i h st b hb => by
    have e : b = it := by simpa using hb
    subst e
    obtain ⟨_, o, e, c, d⟩ := st
    exact ⟨o, e, fun v q => by rw [d] at q; cases q⟩
  keep := fun i h h' st k => ⟨st.1, st.2.move fun o e => k it (by simp) o e⟩
  item := by
    intro X hP hw hK hc i pins s σ H E I hf st hg
    subst hP hw hK
    have hg : i < z.length := hg
    obtain ⟨f0, f1, f2, f3, f4, f5⟩ := hf it (by simp)
    obtain ⟨_, hit⟩ := st
    have e1 : (z.length : Int) - 1 - ((i : Nat) : Int) = ((z.length - 1 - i : Nat) : Int) := by omega
    rw [e1] at hit
    have hlt : z.length - 1 - i < z.cps.size := by show z.length - 1 - i < z.length; omega
    have hx : z.cps[z.length - 1 - i]? = some z.cps[z.length - 1 - i] := Array.getElem?_eq_getElem hlt
    refine nextRv hit hx hz fun h' tk st' sb => ?_
    have e2 : ((z.length - 1 - i : Nat) : Int) - 1 = (z.length : Int) - 1 - ((i + 1 : Nat) : Int) := by omega
    rw [e2] at st'
    have I1 : Inv X pins σ H { s with heap := h', toks := tk } := I.turned (t' := tk) (fun b o hb e => (sb.2 b hb).trans e) f0 f1 f3 f4 f5
    obtain ⟨o, e, c, d⟩ := id st'
    exact ⟨_, rfl, go_of (s := { s with heap := h', toks := tk }) e c d (by decide) ⟨.str ⟨#[z.cps[z.length - 1 - i]]⟩, H, I1, ⟨_, rfl⟩, ⟨rfl, _, hx, rfl⟩, ⟨hg, st'⟩, fun b hb => (hf b hb).1⟩⟩
  done := by
    intro X hP hw hK hc i pins s σ H E I hf st hg
    subst hP hw hK
    have hge : z.length ≤ i := hg
    obtain ⟨f0, f1, f2, f3, f4, f5⟩ := hf it (by simp)
    obtain ⟨hin, hit⟩ := st
    have e1 : (z.length : Int) - 1 - ((i : Nat) : Int) = -1 := by omega
    rw [e1] at hit
    exact endRv (I.ok.hd hc) hit fun h' eb => ⟨rfl, I.turned (t' := s.toks) (fun b o hb e => eb b o hb e) f0 f1 f3 f4 f5⟩
  self := fun A i s Q E st h => iterRv st.2 h

def iRevS (te : TE) : TI := fun σ H R => te σ H fun v H1 => ∃ z : Str, v = .str z ∧ z.length ≤ sizeLine ∧ R (ItR z) H1
theorem pi_revS {X : Cx} {tg e : Expr} {te : TE} {p pos : Pos} (hg : Gl X "reversed") (hm : X.mg "reversed" = none) (he : PE X e te) (hs : starEach [e] X.env = (false, eval e X.env) :: starEach [] X.env := by rfl) :
    PI X tg (.Call (.Name "reversed" p) [e] [] pos) (iRevS te) := by
  refine ⟨fun pins s σ H R I h => ?_⟩
  refine Call_ (ld_blt I hg hm PyProof.Rows.boot_reversed (PyProof.Rows.callWith_type1 (args_cons (thn (he.run pins s σ H _ I h) fun u s1 ⟨v, H1, I1, r1, q1⟩ => args_nil ?_) hs) hs rfl))
  obtain ⟨z, ev, hz, q⟩ := q1
  subst ev
  obtain ⟨t, rfl⟩ := r1
  have e1 : (z.length : Int) - 1 = (z.length : Int) - 1 - ((0 : Nat) : Int) := by omega
  refine callRv hz (iterRv (z := z) (t := t) (i := (z.length : Int) - 1) ⟨_, Heap.get?_push_size _ rfl, rfl, rfl⟩ ?_)
  refine pi_one (tk := s1.toks + 1 + 1) I1 _ (turnR _ z t hz) ⟨Nat.zero_le _, ?_⟩ q
  rw [← e1]
  exact ⟨_, Heap.get?_push_size _ rfl, rfl, rfl⟩
theorem walk_revS {z : Str} : Walk (ItR z) z.length (fun _ => True) (fun i H v H' => H' = H ∧ ∃ c, z.cps[z.length - 1 - i]? = some c ∧ v = .str ⟨#[c]⟩) :=
  ⟨fun _ _ hi _ => hi, fun _ _ => Nat.le_refl _, fun _ _ _ _ _ _ y => y⟩
end BwR


set_option Elab.async false
set_option linter.all false
set_option maxRecDepth 100000
set_option maxHeartbeats 1000000
/-! for i, letter in enumerate(a text) -/
namespace BwE
open PySem PySem.Spec PyProof.Rows L2

theorem drawsStr {prog : Program} {w : World} {A : Around} (hh : A.handled = none) (it : Addr) (x : Str) (t : Tok) :
    Draws prog w A it [it] x.cps.size (fun i v => ∃ c u, x.cps[i]? = some c ∧ v = .str ⟨#[c]⟩ u) (fun i h => h.IsStrIter it (strIterType x) x t i) := by
  unfold strIterType
  split
  · exact Draws.strAscii hh it x t
  · exact Draws.strWide hh it x t

def ItE (z : Str) : It := ⟨fun i _ => i < z.cps.size, fun i H v H' => ∃ T c, v = .ref T ∧ H T = none ∧ H' = upd H T (.tup [.int (i : Nat), .str ⟨#[c]⟩]) ∧ z.cps[i]? = some c, fun i _ => z.cps.size ≤ i⟩
theorem turnE {P : Program} {w : World} {K : PySem.W.Frag} {elts : List Expr} {kk : Nat} {tpos : Pos} (e it : Addr) (z : Str) (t : Tok) :
    Turn P w K (.Tuple elts kk tpos) (ItE z) [e, it] e (fun i h => i ≤ z.cps.size ∧ (∃ old, IsEnum h e it ((i : Nat) : Int) old) ∧ h.IsStrIter it (strIterType z) z t i ∧ e ≠ it) where
  mem := by simp
  obj := fun i h st b hb => by
    obtain ⟨_, ⟨old, he⟩, ⟨o, ho, hc, hd⟩, _⟩ := st
    have e' : b = e ∨ b = it := by simpa using hb
    rcases e' with q | q
    · rw [q]; exact ⟨_, he, fun v q => nomatch q⟩
    · rw [q]; exact ⟨o, ho, fun v q => by rw [hd] at q; cases q⟩
  keep := fun i h h' st k => by
    obtain ⟨hi, ⟨old, he⟩, ⟨o, ho, r⟩, hne⟩ := st
    exact ⟨hi, ⟨old, k e (by simp) _ he⟩, ⟨o, k it (by simp) o ho, r⟩, hne⟩
  item := by
    intro X hP hw hK hc i pins s σ H E I hf st hg
    subst hP hw hK
    obtain ⟨_, ⟨old, he⟩, hit, hne⟩ := st
    have hg : i < z.cps.size := hg
    have hel : e < s.heap.objs.size := Heap.lt_size he
    have hil : it < s.heap.objs.size := by obtain ⟨_, q, _⟩ := hit; exact Heap.lt_size q
    have hh : X.A.in1.handled = none := I.ok.hd hc
    refine wpAny_pyNext_enum_itemD (drawsStr hh it z t) he hit hg hne (by simpa using hne) fun u h' tk hu ho hit' hT hsz hk => ?_
    obtain ⟨c, tu, hcu, rfl⟩ := hu
    refine ⟨_, rfl, wpAny_letOwnedTupleGo_enum (s := { s with heap := h', toks := tk + 1 }) ho fun h'' he' sb => ?_⟩
    have hT2 : h''.get? s.heap.objs.size = some { cls := .type "tuple", data := .seq #[.int i tk, .str ⟨#[c]⟩ tu] } := (sb.2 _ (Nat.ne_of_gt hel)).trans hT
    have new : ObjOk X.prog X.w (upd H s.heap.objs.size (.tup [.int (i : Nat), .str ⟨#[c]⟩])) h'' s.heap.objs.size (.tup [.int (i : Nat), .str ⟨#[c]⟩]) :=
      ⟨by show 2 ≤ sizeLine; decide, [.int i tk, .str ⟨#[c]⟩ tu], .cons ⟨_, rfl⟩ (.cons ⟨_, rfl⟩ .nil), ⟨_, hT2, rfl, _, rfl⟩⟩
    have I1 : Inv X pins σ (upd H s.heap.objs.size (.tup [.int (i : Nat), .str ⟨#[c]⟩])) { s with heap := h'', toks := tk + 1 } :=
      I.turnedNew (ch := [e, it]) (fun b ob hb q => (sb.2 b (fun z => hb (by simp [z]))).trans (hk b ob (fun z => hb (by simp [z])) (fun z => hb (by simp [z])) q)) hf (Nat.le_refl _) new
    refine ⟨.ref s.heap.objs.size, _, I1, rfl, ⟨_, c, rfl, I.hok.fresh (Nat.le_refl _), rfl, hcu⟩, ⟨hg, ⟨Value.str ⟨#[c]⟩ tu, ?_⟩, ?_, hne⟩, fun b hb => ?_⟩
    · have e1 : ((i + 1 : Nat) : Int) = (i : Int) + 1 := by omega
      rw [e1]; exact he'
    · obtain ⟨o, q, r⟩ := hit'
      exact ⟨o, (sb.2 it (Ne.symm hne)).trans q, r⟩
    · have hb' : b < s.heap.objs.size := by
        have e' : b = e ∨ b = it := by simpa using hb
        rcases e' with z | z
        · rw [z]; exact hel
        · rw [z]; exact hil
      rw [upd_ne (Nat.ne_of_lt hb')]
      exact (hf b hb).1
  done := by
    intro X hP hw hK hc i pins s σ H E I hf st hg
    subst hP hw hK
    obtain ⟨hi, ⟨old, he⟩, hit, hne⟩ := st
    have hg : z.cps.size ≤ i := hg
    have e1 : i = z.cps.size := by omega
    subst e1
    obtain ⟨f0, f1, f2, f3, f4, f5⟩ := hf it (by simp)
    have hh : X.A.in1.handled = none := I.ok.hd hc
    exact wpAny_pyNext_enum_endD (drawsStr hh it z t) he hit fun h' eb => ⟨rfl, I.turned (t' := s.toks) (fun b o hb q => eb b o hb q) f0 f1 f3 f4 f5⟩
  self := fun A i s Q E st h => let ⟨_, ⟨_, he⟩, _⟩ := st; wpAny_pyIter_enum he h
def iEnumS (ta : TA) : TI := fun σ H R => ta σ H fun vs H1 => ∃ z : Str, vs = [.str z] ∧ R (ItE z) H1
theorem pi_enumS {X : Cx} {e : Expr} {ta : TA} {p pos tpos : Pos} {elts : List Expr} {kk : Nat} (hg : Gl X "enumerate") (hm : X.mg "enumerate" = none) (ha : PA X [e] ta) (hs : starEach [e] X.env = [(false, eval e X.env)] := by rfl) :
    PI X (.Tuple elts kk tpos) (.Call (.Name "enumerate" p) [e] [] pos) (iEnumS ta) := by
  refine ⟨fun pins s σ H R I h => ?_⟩
  refine Call_ (ld_blt I hg hm boot_enumerate (PyProof.Rows.callWith_type1 (thn (ha.run pos pins s σ H _ I h) fun us s1 ⟨vs, H1, I1, r1, q1⟩ => ?_) hs rfl))
  obtain ⟨z, ex, q⟩ := q1
  subst ex
  cases r1 with
  | cons r rr =>
    cases rr
    obtain ⟨t, rfl⟩ := r
    refine call_enumerate_str fun h' he hit hsz hk => wpAny_pyIter_enum he ?_
    have I2 : Inv X pins σ H1 { s1 with heap := h' } := I1.kept (t' := s1.toks) hk
    refine ⟨s1.heap.objs.size + 1, [s1.heap.objs.size + 1, s1.heap.objs.size], _, _, H1, rfl, I2, turnE (s1.heap.objs.size + 1) s1.heap.objs.size z t, ⟨Nat.zero_le _, ⟨.none, he⟩, hit, Nat.succ_ne_self _⟩, fun b hb => ?_, q⟩
    have e' : b = s1.heap.objs.size + 1 ∨ b = s1.heap.objs.size := by simpa using hb
    have hle : s1.heap.objs.size ≤ b := by
      rcases e' with z | z
      · rw [z]; exact Nat.le_add_right _ _
      · rw [z]; exact Nat.le_refl _
    exact I1.fpOk hle (I1.hok.fresh hle)
theorem walk_enumS {z : Str} : Walk (ItE z) z.cps.size (fun _ => True) (YPair (fun i => some (.int (i : Nat))) (fun i => z.cps[i]?.map fun c => V.str ⟨#[c]⟩)) := by
  refine ⟨fun i _ hi _ => hi, fun _ _ => Nat.le_refl _, fun i H v H' _ _ y => ?_⟩
  obtain ⟨T, c, h1, h2, h3, h4⟩ := y
  exact ⟨T, .int (i : Nat), .str ⟨#[c]⟩, h1, h2, h3, rfl, by simp [h4]⟩
end BwE


set_option Elab.async false
set_option linter.all false
set_option maxRecDepth 100000
set_option maxHeartbeats 1000000
/-! d.setdefault(k, x), the keys of d tuples -/
namespace BwD
open PySem PySem.Spec PyProof.Rows L2
section
variable {X : Cx} {pins : List (Addr × Obj)} {σ : L2.St} {H : Hp} {s : Shared} {a b : Addr} {A : Around} {E : Value → Shared → Prop}
theorem setdT {kvs : List (List Key × V)} {k : List Key} {d : V} {r : Value} {Q : Value → Shared → Prop} (hu : A.units + 1 < cLine) (I : Inv X pins σ H s) (e : H a = some (.dT kvs)) (eb : H b = some (.tup (k.map kV))) (rd : RelV d r) (hl : kvs.length < sizeLine)
    (h1 : ∀ v, valV kvs k = some v → ∀ (w' : Value) (s' : Shared), Inv X pins σ H s' → RelV v w' → Q w' s')
    (h2 : valV kvs k = none → ∀ (w' : Value) (s' : Shared), Inv X pins σ (upd H a (.dT (putK kvs k d))) s' → RelV d w' → Q w' s') :
    wpAny (model X.prog X.w) A (call (.builtin "dict.setdefault") [.ref a, .ref b, r]) Q E s := by
  obtain ⟨z, hd, xs, rel, dd⟩ := dt_of I.hok e
  have hz : xs.length ≤ sizeLine := by rw [← Paired.length rel]; exact z
  have hp : (putK kvs k d).length ≤ sizeLine := by have := length_putK kvs k d; omega
  have q := rel.val k
  refine call_setdefault_heap (hsz := hz) (tupleKind_room_in1 hu) (key_of I.hok eb) hd dd (fun p hp' => ?_) fun hn h' dd' hs => ?_
  · rw [hp'] at q
    cases q0 : valV kvs k with
    | none => rw [q0] at q; exact (show False from q).elim
    | some v0 => rw [q0] at q; exact h1 v0 q0 _ _ (I.tok _) q
  · rw [hn] at q
    cases q0 : valV kvs k with
    | some v0 => rw [q0] at q; exact (show False from q).elim
    | none =>
      obtain ⟨q2, es, ep, hq, g2, g3, g4, _, g5⟩ := dd'
      refine h2 q0 _ _ (d_write I (by rw [e]; exact True.intro) hs ⟨q2, hq⟩ ⟨hp, hd, _, (rel.put k eb rd).keeps fun c ys ec => ?_, q2, es, ep, hq, g2, g3, g4, g5⟩) rd
      rw [upd_ne (ne_of ec e (fun z => nomatch z))]
      exact ec
end
/-- d.setdefault(y, z), y a tuple -/
def tSetdT (td ty tx : TE) : TE := fun σ H Q => td σ H fun x H1 => ∃ a, x = .ref a ∧ IsD H1 a ∧ ty σ H1 fun y H2 => tx σ H2 fun z H3 => ∃ (kvs : List (List Key × V)) (k : List Key) (b : Addr), H3 a = some (.dT kvs) ∧ y = .ref b ∧ H3 b = some (.tup (k.map kV)) ∧ kvs.length < sizeLine ∧
  (∀ v, valV kvs k = some v → Q v H3) ∧ (valV kvs k = none → Q z (upd H3 a (.dT (putK kvs k z))))
theorem pe_setdT {X : Cx} {o e f : Expr} {td ty tx : TE} {apos cpos : Pos} (hu : X.A.units + 1 < cLine) (ho : PE X o td) (he : PE X e ty) (hf : PE X f tx) (m : M2 X o "setdefault" apos e f cpos) :
    PE X (.Call (.Attribute o "setdefault" apos) [e, f] [] cpos) (tSetdT td ty tx) := by
  refine ⟨fun pins s σ H Q I h => ?_⟩
  refine wpAny_Call_method m.base m.few m.line PySem.F.plainAttrs_dict PySem.F.slot_dict_setdefault PySem.F.type_dict_setdefault (thn (ho.run pins s σ H _ I h) fun u s1 ⟨x, H1, I1, rx, a, ex, d, q1⟩ => ?_)
  subst ex
  obtain rfl : u = Value.ref a := rx
  obtain ⟨t1, t2, _⟩ := isD_at I1 d
  refine ⟨t1, t2, ?_⟩
  rw [m.trees]
  refine Calls.callWith_builtin rfl (Calls.evalArgs_plain (Calls.spliced_cons (thn (he.run pins s1 σ H1 _ I1 q1) fun iv s2 ⟨y, H2, I2, ry, q2⟩ =>
    Calls.spliced_cons (thn (hf.run pins s2 σ H2 _ I2 q2) fun fv s3 ⟨z, H3, I3, rz, kvs, k, b, ea, ey, eb, hl, q3, q4⟩ => Calls.spliced_nil ?_))))
  subst ey
  obtain rfl : iv = Value.ref b := ry
  exact setdT hu I3 ea eb rz hl (fun v hv w' s4 I4 rw' => ⟨v, _, I4, rw', q3 v hv⟩) fun hn w' s4 I4 rw' => ⟨z, _, I4, rw', q4 hn⟩
end BwD


set_option Elab.async false
set_option linter.all false
set_option maxRecDepth 100000
set_option maxHeartbeats 4000000
/-! sets of tuples of ints and texts: made of a list, sorted. The table's own words (TabOk, way, relaid_ok ..) are the library's; here they are taken to keys of mixed parts. -/
namespace BwS
open PySem PySem.Spec PyProof.Rows L2

abbrev MRow : Type := Addr × List Key
abbrev mh (P : Program) (w : World) (k : List Key) : Int := tupleKeyHash (mixKind P w) k
abbrev IsM (P : Program) (w : World) (h : Heap) (k : List Key) (a : Addr) : Prop := IsTupleKey (mixKind P w) h k a
def rowsM (P : Program) (w : World) (L : List MRow) : List (Int × Value) := L.map fun p => (mh P w p.2, Value.ref p.1)

section
variable {P : Program} {w : World} {A : Around} {E : Value → Shared → Prop} {s : Shared}

theorem flatItem {k : List Key} {vs : List Value} (h : ItemsAre (mixKind P w) k vs) : ∀ v ∈ vs, (∃ i t, v = Value.int i t) ∨ ∃ x t, v = Value.str x t := by
  induction h with
  | nil => intro v hv; cases hv
  | @cons k0 u ks us h1 _ ih =>
    intro v hv
    rcases List.mem_cons.mp hv with e | hv
    · subst e
      rcases keyIs_shape (k := k0) (v := v) h1 with ⟨i, t, _, e⟩ | ⟨x, t, _, e⟩
      · exact .inl ⟨i, t, e⟩
      · exact .inr ⟨x, t, e⟩
    · exact ih v hv
theorem noClassStmt (n : Nat) {v : Value} (hv : (∃ i t, v = Value.int i t) ∨ ∃ x t, v = Value.str x t) : ofAClassStatement n v = pure false := by
  rcases hv with ⟨i, t, rfl⟩ | ⟨x, t, rfl⟩ <;> cases n <;> rfl
theorem byValItem (n : Nat) {v : Value} (hv : (∃ i t, v = Value.int i t) ∨ ∃ x t, v = Value.str x t) : ∃ r, hashByValue n v = pure r := by
  rcases hv with ⟨i, t, rfl⟩ | ⟨x, t, rfl⟩
  · exact ⟨true, by cases n <;> rfl⟩
  · exact ⟨false, by cases n <;> rfl⟩
theorem quietClass {k : List Key} {b : Addr} {Q : Bool → Shared → Prop} (hk : IsM P w s.heap k b) (h : Q false s) : wpAny (model P w) A (ofAClassStatement 8 (.ref b)) Q E s := by
  have hT := hk.typeIs
  obtain ⟨o, items, n, ho, _, hd, hi⟩ := hk
  unfold ofAClassStatement
  refine wpAny_bind (wpAny_typeOf hT ?_)
  dsimp only
  have e : (("tuple" : String) == "tuple") = true := by decide
  simp only [e, if_true, Bool.not_true, Bool.false_eq_true, if_false]
  try refine wpAny_bind (wpAny_pure ?_)
  try simp only [Bool.not_true, Bool.false_eq_true, if_false]
  show wpAny _ _ (seqItems? (.ref b) >>= _) _ _ s
  refine wpAny_bind (wpAny_seqItems ho hd ?_)
  dsimp only
  refine wpAny_bind ?_
  show wpAny _ _ (forIn items _ _) _ _ s
  rw [← Array.forIn_toList]
  refine wpAny_forIn_list _ (fun rest r s' => r.1 = none ∧ s' = s ∧ ∀ v ∈ rest, (∃ i t, v = Value.int i t) ∨ ∃ x t, v = Value.str x t) _ ?_ ?_ _ _ ⟨rfl, rfl, flatItem hi⟩
  · rintro v rest r s' ⟨hr, rfl, hall⟩
    rw [noClassStmt _ (hall v List.mem_cons_self)]
    refine wpAny_bind (wpAny_pure ?_)
    simp only [Bool.false_eq_true, if_false]
    exact wpAny_pure ⟨rfl, rfl, fun u hu' => hall u (List.mem_cons_of_mem _ hu')⟩
  · rintro ⟨r1, r2⟩ s' ⟨hr, rfl, _⟩
    simp only at hr
    subst hr
    exact wpAny_pure h
theorem byValKey {k : List Key} {b : Addr} {Q : Bool → Shared → Prop} (hk : IsM P w s.heap k b) (h : ∀ r, Q r s) : wpAny (model P w) A (hashByValue 8 (.ref b)) Q E s := by
  have hT := hk.typeIs
  obtain ⟨o, items, n, ho, _, hd, hi⟩ := hk
  unfold hashByValue
  refine wpAny_bind (wpAny_specialOf hT F.slot_tuple_hash.lookup ?_)
  show wpAny _ _ (seqItems? (.ref b) >>= _) _ _ s
  refine wpAny_bind (wpAny_seqItems ho hd ?_)
  refine wpAny_bind ?_
  show wpAny _ _ (forIn items _ _) _ _ s
  rw [← Array.forIn_toList]
  refine wpAny_forIn_list _ (fun rest r s' => r.1 = none ∧ s' = s ∧ ∀ v ∈ rest, (∃ i t, v = Value.int i t) ∨ ∃ x t, v = Value.str x t) _ ?_ ?_ _ _ ⟨rfl, rfl, flatItem hi⟩
  · rintro v rest r s' ⟨hr, rfl, hall⟩
    obtain ⟨q, e⟩ := byValItem (7) (hall v List.mem_cons_self)
    rw [e]
    refine wpAny_bind (wpAny_pure ?_)
    cases q with
    | true =>
      simp only [Bool.not_true, Bool.false_eq_true, if_false]
      exact wpAny_pure ⟨rfl, rfl, fun u hu' => hall u (List.mem_cons_of_mem _ hu')⟩
    | false =>
      simp only [Bool.not_false, if_true]
      exact wpAny_pure (wpAny_pure (h _))
  · rintro ⟨r1, r2⟩ s' ⟨hr, rfl, _⟩
    simp only at hr
    subst hr
    exact wpAny_pure (h _)
theorem quietSearch {k : List Key} {b : Addr} {Q : Bool → Shared → Prop} (hk : IsM P w s.heap k b) {ys : List Value} (hy : ∀ y ∈ ys, ∃ k' c, y = Value.ref c ∧ IsM P w s.heap k' c) (h : Q false s) :
    wpAny (model P w) A (searchCouldBeSeen (.ref b) ys) Q E s := by
  unfold searchCouldBeSeen
  refine wpAny_bind ?_
  refine wpAny_forIn_list _ (fun rest r s' => r.1 = none ∧ s' = s ∧ ∀ y ∈ rest, ∃ k' c, y = Value.ref c ∧ IsM P w s.heap k' c) _ ?_ ?_ _ _ ⟨rfl, rfl, hy⟩
  · rintro v rest r s' ⟨hr, rfl, hall⟩
    obtain ⟨k', c, rfl, hc⟩ := hall v List.mem_cons_self
    have more : ∀ y ∈ rest, ∃ k' c, y = Value.ref c ∧ IsM P w s'.heap k' c := fun u hu' => hall u (List.mem_cons_of_mem _ hu')
    dsimp only
    by_cases hv : (b == c || (carriedByValue (.ref b) && carriedByValue (.ref c))) = true
    · refine wp_if_pos hv ?_
      exact wpAny_pure ⟨rfl, rfl, more⟩
    · refine wp_if_neg hv ?_
      refine wpAny_bind (wpAny_eqIsQuiet_tuple hk ?_)
      simp only [Bool.not_true, Bool.false_eq_true, if_false]
      refine wpAny_bind (wpAny_eqIsQuiet_tuple hc ?_)
      simp only [Bool.not_true, Bool.false_eq_true, if_false]
      refine wpAny_bind (quietClass hk ?_)
      simp only [Bool.false_eq_true, if_false]
      refine wpAny_bind (quietClass hc ?_)
      simp only [Bool.false_eq_true, if_false]
      exact wpAny_pure ⟨rfl, rfl, more⟩
  · rintro ⟨r1, r2⟩ s' ⟨hr, rfl, _⟩
    simp only at hr
    subst hr
    exact wpAny_pure h

/-- a set object at a with the rows L, in the table's order -/
structure SetM (P : Program) (w : World) (h : Heap) (a : Addr) (L : List MRow) (es : Array (Int × Value)) (ep : Nat) (t : SetTable) : Prop where
  ob : ∃ o, h.get? a = some o ∧ o.ExactSet ∧ o.data = .set es ep t
  rows : es.toList = rowsM P w L
  tab : TabOk t (L.map fun p => mh P w p.2)
  nd : (L.map (·.2)).Nodup
  tup : ∀ p ∈ L, IsM P w h p.2 p.1
  led : w.params.followText "set-order" = true ∨ t.led = true
  room : L.length * 5 < t.mask * 3
  few : L.length < 77
variable {a : Addr} {L : List MRow} {es : Array (Int × Value)} {ep : Nat} {t : SetTable}
theorem rowsLen {es : Array (Int × Value)} {L : List MRow} (h : es.toList = rowsM P w L) : es.size = L.length := by
  have q := congrArg List.length h
  unfold rowsM at q
  rw [Array.length_toList, List.length_map] at q
  exact q
theorem rowAt {es : Array (Int × Value)} {L : List MRow} (h : es.toList = rowsM P w L) {i : Nat} {p : MRow} (hp : L[i]? = some p) : es[i]? = some (mh P w p.2, Value.ref p.1) := by
  rw [← Array.getElem?_toList, h]
  unfold rowsM
  rw [List.getElem?_map, hp] <;> rfl
theorem SetM.fits (R : SetM P w s.heap a L es ep t) : t.fits es.size = true := by
  have h1 := R.tab.sz
  rw [List.length_map] at h1
  have h2 := rowsLen R.rows
  have h3 := R.room
  unfold SetTable.fits SetTable.fill
  rw [R.tab.dm, Bool.and_eq_true, beq_iff_eq, decide_eq_true_eq]
  show t.place.size = es.size ∧ t.place.size + 0 ≤ t.mask
  omega
theorem SetM.noWay (R : SetM P w s.heap a L es ep t) : ¬ t.gaveWay = true := by
  unfold SetTable.gaveWay
  rw [mask_odd R.tab.mok]
  decide

/-- the search, begun at the c-th step of the key's way -/
theorem lookFrom (R : SetM P w s.heap a L es ep t) {x : Addr} {k : List Key} (hx : IsM P w s.heap k x) (hu : A.units < cLine) {K : Nat} (hKf : K < 10 * SetTable.turns t.mask)
    (hK : way t.mask (mh P w k) K ∉ t.place.toList) (hKb : ∀ c, c < K → way t.mask (mh P w k) c ∈ t.place.toList) {Q : SetFound → Shared → Prop}
    (hin : k ∈ L.map (·.2) → Q (.there none) s) (hout : k ∉ L.map (·.2) → Q (.free (way t.mask (mh P w k) K) false) s) :
    ∀ (f c : Nat) (stand : Option SetTable.Probe), stand.getD (t.probeStart (mh P w k)) = nth t.mask (runAt t.mask (SetTable.bits (mh P w k) % (t.mask + 1)) (SetTable.bits (mh P w k))) c → c ≤ K → K - c < f →
      (∀ (i : Nat) p, L[i]? = some p → p.2 = k → ∃ c', c ≤ c' ∧ c' < K ∧ t.place.toList[i]? = some (way t.mask (mh P w k) c')) →
      wpAny (model P w) A (setSearchFrom a (.ref x) (mh P w k) true f stand) Q E s
  | 0, c, stand, _, _, hf, _ => absurd hf (Nat.not_lt_zero _)
  | f + 1, c, stand, hst, hc, hf, hre => by
    obtain ⟨o, ho, hex, hd⟩ := R.ob
    rw [setSearchFrom_succ]
    refine wpAny_bind (wpAny_setState_of ho hd R.fits ?_)
    dsimp only
    refine wp_if_neg R.noWay ?_
    try refine wpAny_bind (wpAny_pure ?_)
    generalize hwb : runAt t.mask (SetTable.bits (mh P w k) % (t.mask + 1)) (SetTable.bits (mh P w k)) = wb at hst
    have hwb0 : wb.dummy = none := by rw [← hwb]; rfl
    have wy : ∀ q, way t.mask (mh P w k) q = (nth t.mask wb q).j := fun q => by rw [← hwb]
    have noDummy : ∀ (n : Nat) (p : SetTable.Probe), p.dummy = none → (nth t.mask p n).dummy = none := by
      intro n
      induction n with
      | zero => intro p h; exact h
      | succ n ih =>
        intro p h
        refine ih (adv t.mask p) ?_
        unfold adv
        split <;> exact h
    have sh : ∀ q, nth t.mask (nth t.mask wb c) q = nth t.mask wb (c + q) := fun q => (nth_add t.mask c _ q).symm
    have e1 : ∀ q, (nth t.mask (nth t.mask wb c) q).j = way t.mask (mh P w k) (c + q) := fun q => by rw [sh, wy]
    have spec := go_spec t R.tab.ris R.tab.dm (fun i => (es[i]?.map (·.1)).getD 0) (mh P w k) (10 * SetTable.turns t.mask) (K - c) (nth t.mask wb c) (noDummy c wb hwb0) (by omega)
      (fun q hq => by rw [e1]; exact hKb (c + q) (by omega)) (by rw [e1, show c + (K - c) = K by omega]; exact hK)
    have hashAt : ∀ (i : Nat) p, L[i]? = some p → (fun i => (es[i]?.map (·.1)).getD 0) i = mh P w p.2 := fun i p hp => by
      show (es[i]?.map (·.1)).getD 0 = _
      rw [rowAt R.rows hp] <;> rfl
    rcases spec with ⟨q, i, hq, hi, hh, hno, hpr⟩ | ⟨hno, hpr⟩
    · have hpr' : t.probe (fun i => (es[i]?.map (·.1)).getD 0) (mh P w k) (stand.getD (t.probeStart (mh P w k))) = some (.candidate (way t.mask (mh P w k) (c + q)) i (nth t.mask wb (c + (q + 1)))) := by
        rw [hst, ← e1, ← sh]
        exact hpr
      rw [hpr']
      dsimp only
      rw [e1] at hi
      have hil : i < L.length := by
        have h1 : i < t.place.toList.length := (List.getElem?_eq_some_iff.mp hi).1
        have h2 := R.tab.sz
        rw [List.length_map] at h2
        rw [Array.length_toList] at h1
        omega
      obtain ⟨p, hp⟩ : ∃ p, L[i]? = some p := ⟨_, List.getElem?_eq_getElem hil⟩
      have hmem : p ∈ L := List.mem_of_getElem? hp
      have hpt := R.tup p hmem
      have onward : wpAny (model P w) A (searchRest a (.ref x) (mh P w k) true f es t (way t.mask (mh P w k) (c + q)) i (nth t.mask wb (c + (q + 1)))) Q E s := by
        unfold searchRest
        rw [rowAt R.rows hp]
        dsimp only
        refine wpAny_bind (wpAny_holding (wpAny_eqBool_tuple hu hpt hx ?_))
        refine wpAny_bind (wpAny_setState_of ho hd R.fits ?_)
        dsimp only
        by_cases hkk : p.2 = k
        · refine wp_if_pos (by simp [hkk]) ?_
          exact wpAny_pure (hin (List.mem_map.mpr ⟨p, hmem, hkk⟩))
        · refine wp_if_neg (by simp [hkk]) ?_
          try refine wpAny_bind (wpAny_pure ?_)
          rw [sameMem]
          dsimp only
          have hsl : t.slot (way t.mask (mh P w k) (c + q)) = .live i := slot_live R.tab.ris hi
          simp only [if_true, hsl, rowAt R.rows hp]
          refine wpAny_bind (wpAny_isSame_ref_self (wpAny_bind (wpAny_pure ?_)))
          simp only [if_true]
          refine wp_if_neg (by simp [hkk]) ?_
          refine lookFrom R hx hu hKf hK hKb hin hout f (c + (q + 1)) _ (by rw [hwb]; rfl) (by omega) (by omega) fun i0 p0 h0 hk0 => ?_
          obtain ⟨c', a1, a2, a3⟩ := hre i0 p0 h0 hk0
          refine ⟨c', ?_, a2, a3⟩
          rcases Nat.lt_or_ge c' (c + q) with z | z
          · exfalso
            refine hno (c' - c) i0 (by omega) (by rw [e1, show c + (c' - c) = c' by omega]; exact a3) ?_
            exact (hashAt i0 p0 h0).trans (congrArg (mh P w) hk0)
          · rcases Nat.lt_or_ge (c + q) c' with y | y
            · omega
            · exfalso
              have ec : c' = c + q := Nat.le_antisymm y z
              rw [ec] at a3
              have s0 := slot_live R.tab.ris a3
              rw [hsl] at s0
              injection s0 with s0
              rw [← s0, hp] at h0
              exact hkk ((congrArg Prod.snd (Option.some.inj h0)).trans hk0)
      by_cases hl : t.led = true
      · refine wp_if_neg (by simp [hl]) ?_
        try refine wpAny_bind (wpAny_pure ?_)
        exact onward
      · refine wp_if_pos (by simp [hl]) ?_
        refine wpAny_bind (quietSearch hx (fun y hy => ?_) ?_)
        · obtain ⟨e, he, ee⟩ := List.mem_map.mp hy
          have he1 : e ∈ es ∧ e.1 = mh P w k := by simpa using he
          have he2 : e ∈ es.toList := by simpa using he1.1
          rw [R.rows] at he2
          obtain ⟨p2, hp2, e2⟩ := List.mem_map.mp he2
          exact ⟨p2.2, p2.1, by rw [← ee, ← e2], R.tup p2 hp2⟩
        · refine wp_if_neg (by decide) ?_
          try refine wpAny_bind (wpAny_pure ?_)
          exact onward
    · have hpr' : t.probe (fun i => (es[i]?.map (·.1)).getD 0) (mh P w k) (stand.getD (t.probeStart (mh P w k))) = some (.empty (way t.mask (mh P w k) K) none) := by
        have e2 : way t.mask (mh P w k) K = (nth t.mask (nth t.mask wb c) (K - c)).j := by
          rw [e1, show c + (K - c) = K by omega]
        rw [hst, e2]
        exact hpr
      rw [hpr']
      dsimp only
      refine wpAny_pure (hout fun hm => ?_)
      obtain ⟨p0, h0, hk0⟩ := List.mem_map.mp hm
      obtain ⟨i0, hi0, e0⟩ := List.getElem_of_mem h0
      have h00 : L[i0]? = some p0 := by rw [List.getElem?_eq_getElem hi0, e0]
      obtain ⟨c', a1, a2, a3⟩ := hre i0 p0 h00 hk0
      refine hno (c' - c) i0 (by omega) (by rw [e1, show c + (c' - c) = c' by omega]; exact a3) ?_
      exact (hashAt i0 p0 h00).trans (congrArg (mh P w) hk0)
theorem lookAt (R : SetM P w s.heap a L es ep t) {x : Addr} {k : List Key} (hx : IsM P w s.heap k x) (hu : A.units < cLine) {Q : SetFound → Shared → Prop}
    (hin : k ∈ L.map (·.2) → Q (.there none) s)
    (hout : ∀ K, k ∉ L.map (·.2) → way t.mask (mh P w k) K ∉ t.place.toList → (∀ c, c < K → way t.mask (mh P w k) c ∈ t.place.toList) → Q (.free (way t.mask (mh P w k) K) false) s) :
    wpAny (model P w) A (setSearch a (.ref x) (mh P w k) true) Q E s := by
  have hroom := R.room
  obtain ⟨K, hKf, hK, hKb⟩ := R.tab.first (by rw [List.length_map]; omega) (mh P w k)
  have hbig : K < 100000 := by
    have : 10 * SetTable.turns t.mask ≤ 1420 := by
      unfold SetTable.turns
      rcases R.tab.mok with e | e | e <;> omega
    omega
  unfold setSearch
  refine lookFrom R hx hu hKf hK hKb hin (fun hn => hout K hn hK hKb) 100000 0 none rfl (Nat.zero_le _) (by omega) fun i p hp hk => ?_
  have hi : (L.map fun p => mh P w p.2)[i]? = some (mh P w k) := by rw [List.getElem?_map, hp, ← hk] <;> rfl
  have hil : i < t.place.toList.length := by
    have h1 : i < L.length := (List.getElem?_eq_some_iff.mp hp).1
    have h2 := R.tab.sz
    rw [List.length_map] at h2
    rw [Array.length_toList]
    omega
  have hj := List.getElem?_eq_getElem hil
  obtain ⟨c, hc, e⟩ := R.tab.before hK hi hj
  exact ⟨c, Nat.zero_le _, hc, by rw [hj, e]⟩

/-! ### one put in -/
theorem isM_but {h h' : Heap} {k : List Key} {a b : Addr} {o : Obj} {es : Array (Int × Value)} {ep : Nat} {t : SetTable} (hb : IsM P w h k b) (ho : h.get? a = some o) (hd : o.data = .set es ep t) (hs : Heap.SameBut a h h') : IsM P w h' k b := by
  obtain ⟨o', items, n, ho', hc, hd', hi⟩ := hb
  have hne : b ≠ a := by
    rintro rfl
    obtain rfl : o' = o := Option.some.inj (ho'.symm.trans ho)
    rw [hd] at hd'
    exact nomatch hd'
  exact ⟨o', items, n, (hs.2 b hne).trans ho', hc, hd', hi⟩
theorem pickRows : ∀ (l : List Nat) (L : List MRow) (es : Array (Int × Value)), es.toList = rowsM P w L → (∀ i ∈ l, i < L.length) →
    l.filterMap (fun i => es[i]?) = rowsM P w (l.filterMap fun i => L[i]?) ∧ ((l.filterMap fun i => L[i]?).map fun p => mh P w p.2) = l.map fun i => (es.map (·.1)).getD i 0
  | [], _, _, _, _ => ⟨rfl, rfl⟩
  | i :: l, L, es, hr, hl => by
    have hi := hl i List.mem_cons_self
    obtain ⟨e1, e3⟩ := pickRows l L es hr fun j hj => hl j (List.mem_cons_of_mem _ hj)
    have ep := rowAt hr (List.getElem?_eq_getElem hi)
    rw [List.filterMap_cons_some ep, List.filterMap_cons_some (List.getElem?_eq_getElem hi), e1]
    refine ⟨rfl, ?_⟩
    rw [List.map_cons, List.map_cons, e3]
    have e5 : (es.map (·.1))[i]? = some (mh P w (L[i]).2) := by rw [Array.getElem?_map, ep] <;> rfl
    have e4 : (es.map (·.1)).getD i 0 = mh P w (L[i]).2 := by simp [Array.getD_eq_getD_getElem?, e5]
    rw [e4]
theorem range_pick {α : Type} (L : List α) : (List.range L.length).filterMap (fun i => L[i]?) = L := by
  have key : ∀ n, n ≤ L.length → (List.range n).filterMap (fun i => L[i]?) = L.take n := by
    intro n
    induction n with
    | zero => intro _; rfl
    | succ n ih =>
      intro hn
      have hlt : n < L.length := hn
      rw [List.range_succ, List.filterMap_append, ih (Nat.le_of_lt hlt), List.take_succ, List.getElem?_eq_getElem hlt]
      rw [List.filterMap_cons_some (List.getElem?_eq_getElem hlt)] <;> rfl
  rw [key L.length (Nat.le_refl _), List.take_length]
theorem reOrder (L : List MRow) (es : Array (Int × Value)) (order : Array Nat) (hr : es.toList = rowsM P w L) (hp : order.toList.Perm (List.range L.length)) :
    ∃ L2, (order.filterMap (es[·]?)).toList = rowsM P w L2 ∧ L2.Perm L ∧ (L2.map fun p => mh P w p.2) = order.toList.map fun i => (es.map (·.1)).getD i 0 := by
  obtain ⟨e1, e3⟩ := pickRows order.toList L es hr fun i hi => List.mem_range.mp (hp.mem_iff.mp hi)
  refine ⟨_, by first | (rw [Array.toList_filterMap]; exact e1) | simpa using e1, ?_, e3⟩
  have h1 := hp.filterMap fun i => L[i]?
  rw [range_pick] at h1
  exact h1
/-- the table grows -/
theorem growAt {o : Obj} (ho : s.heap.get? a = some o) (hex : o.ExactSet) (hd : o.data = .set es ep t) (hrows : es.toList = rowsM P w L) (hsz : t.place.size = es.size) (hdm : t.dummies = #[]) (hfl : es.size ≤ t.mask)
    (nd : (L.map (·.2)).Nodup) (tup : ∀ p ∈ L, IsM P w s.heap p.2 p.1) (ld : w.params.followText "set-order" = true ∨ t.led = true) (few : L.length < 77) {wanted M : Nat}
    (hw : SetTable.sizeAbove wanted - 1 = M) (hM : MaskOk M) (hw2 : SetTable.sizeAbove wanted ≤ 128) (hn : L.length * 5 < M * 3) {Q : Unit → Shared → Prop}
    (hQ : ∀ h' L' es' ep' t', Heap.SameBut a s.heap h' → SetM P w h' a L' es' ep' t' → L'.Perm L → Q () { s with heap := h' }) : wpAny (model P w) A (setRelay a wanted) Q E s := by
  have hsl := rowsLen hrows
  have hfits : t.fits es.size = true := by
    unfold SetTable.fits SetTable.fill
    rw [hdm, Bool.and_eq_true, beq_iff_eq, decide_eq_true_eq]
    show t.place.size = es.size ∧ t.place.size + 0 ≤ t.mask
    omega
  obtain ⟨t', order, e, hp, T, em, el, ep', ed⟩ := relaid_ok t (hs := es.map (·.1)) (wanted := wanted) hw hM (by rw [Array.size_map, hsl]; omega)
  rw [Array.size_map, hsl] at hp
  obtain ⟨L2, r1, r2, r3⟩ := reOrder L es order hrows hp
  rw [← r3] at T
  have hs2 : (order.filterMap (es[·]?)).size = es.size := by rw [rowsLen r1, r2.length_eq, hsl]
  rw [setRelay_eq]
  refine wpAny_bind (wpAny_setState_of ho hd hfits ?_)
  dsimp only
  refine wp_if_neg (by rw [sizeLine_eq]; omega) ?_
  try refine wpAny_bind (wpAny_pure ?_)
  rw [e]
  dsimp only
  refine wpAny_bind ?_
  refine wp_if_neg (by rw [hs2]; simp) ?_
  try refine wpAny_bind (wpAny_pure ?_)
  refine wpAny_pure ?_
  dsimp only
  refine wpAny_storeSet_of ho hd ?_ (by rw [hs2, hsl, sizeLine_eq]; omega)
  have sb : Heap.SameBut a s.heap (s.heap.update a (Obj.putSet (order.filterMap (es[·]?)) t')) := Heap.SameBut.update ..
  refine hQ _ L2 (order.filterMap (es[·]?)) (ep + 1) t' sb ?_ r2
  refine ⟨⟨_, store_at ho hd, ⟨hex.1, hex.2.1, hex.2.2⟩, rfl⟩, r1, T, (r2.map (·.2)).nodup_iff.mpr nd, fun p hpm => isM_but (tup p (r2.mem_iff.mp hpm)) ho hd sb, by rw [el]; exact ld, ?_, by rw [r2.length_eq]; exact few⟩
  rw [r2.length_eq, em]
  exact hn
theorem insRows (L : List MRow) (p : Nat) (x : Addr) (k : List Key) : rowsM P w (L.take p ++ (x, k) :: L.drop p) = (rowsM P w L).take p ++ (mh P w k, Value.ref x) :: (rowsM P w L).drop p := by
  unfold rowsM
  rw [List.map_append, List.map_cons, List.map_take, List.map_drop]
theorem insPerm {α : Type} (L : List α) (p : Nat) (x : α) : (L.take p ++ x :: L.drop p).Perm (x :: L) := by
  have h : (L.take p ++ x :: L.drop p).Perm (x :: (L.take p ++ L.drop p)) := List.perm_middle
  rw [List.take_append_drop] at h
  exact h
end
end BwS


set_option Elab.async false
set_option linter.all false
set_option maxRecDepth 100000
set_option maxHeartbeats 4000000
namespace BwS
open PySem PySem.Spec PyProof.Rows L2
section
variable {P : Program} {w : World} {A : Around} {E : Value → Shared → Prop} {s : Shared}
variable {a : Addr} {L : List MRow} {es : Array (Int × Value)} {ep : Nat} {t : SetTable}
/-- behind the store: the table may be too full -/
theorem storedAt {o : Obj} (ho : s.heap.get? a = some o) (hex : o.ExactSet) (hd : o.data = .set es ep t) (R : SetM P w s.heap a L es ep t) {x : Addr} {k : List Key} (hx : IsM P w s.heap k x) (hm : k ∉ L.map (·.2)) (hfew : L.length + 1 < 77)
    {L1 : List MRow} {es1 : Array (Int × Value)} {t2 : SetTable} (pm : L1.Perm ((x, k) :: L)) (hin : es1.toList = rowsM P w L1) (T : TabOk t2 (L1.map fun p => mh P w p.2)) (hmask : t2.mask = t.mask) (hled : t2.led = t.led) (hfill : t2.fill = L.length + 1)
    {Q : Bool → Shared → Prop} (hQ : ∀ h' L' es' ep' t', Heap.SameBut a s.heap h' → SetM P w h' a L' es' ep' t' → L'.Perm ((x, k) :: L) → Q true { s with heap := h' }) :
    wpAny (model P w) A (do
      storeSet a es1 t2
      if !false && t2.tooFull then setRelay a (SetTable.grown (es.size + 1))
      return true) Q E s := by
  have hroom := R.room
  have hlen : L1.length = L.length + 1 := pm.length_eq
  have hes := rowsLen hin
  have nd1 : (L1.map (·.2)).Nodup := by
    refine (pm.map (·.2)).nodup_iff.mpr ?_
    rw [List.map_cons]
    exact List.nodup_cons.mpr ⟨hm, R.nd⟩
  refine wpAny_bind (wpAny_storeSet_of ho hd ?_ (by rw [hes, hlen, sizeLine_eq]; omega))
  have sb : Heap.SameBut a s.heap (s.heap.update a (Obj.putSet es1 t2)) := Heap.SameBut.update ..
  have ho1 := store_at (es' := es1) (t' := t2) ho hd
  generalize s.heap.update a (Obj.putSet es1 t2) = h1 at sb ho1 ⊢
  have tup1 : ∀ p ∈ L1, IsM P w h1 p.2 p.1 := fun p hp => by
    rcases List.mem_cons.mp (pm.mem_iff.mp hp) with e | hp
    · rw [e]; exact isM_but hx ho hd sb
    · exact isM_but (R.tup p hp) ho hd sb
  have ld1 : w.params.followText "set-order" = true ∨ t2.led = true := by rw [hled]; exact R.led
  have hsl := rowsLen R.rows
  by_cases hf : t2.tooFull = true
  · first
      | (refine wpAny_bind ?_; refine wp_if_pos (by simp [hf]) ?_)
      | (refine wp_if_pos (by simp [hf]) ?_; refine wpAny_bind ?_)
    have hfull : (L.length + 1) * 5 ≥ t2.mask * 3 := by
      have h := hf
      unfold SetTable.tooFull at h
      rw [decide_eq_true_eq, hfill] at h
      exact h
    rw [hmask] at hfull
    rw [hsl]
    have hsz1 : t2.place.size = es1.size := by
      have h := T.sz
      rw [List.length_map, hlen] at h
      rw [h, hes, hlen]
    have two : (t.mask = 7 ∧ L.length = 4) ∨ (t.mask = 31 ∧ L.length = 18) := by
      rcases R.tab.mok with e | e | e
      · left; rw [e] at hfull hroom; exact ⟨e, by omega⟩
      · right; rw [e] at hfull hroom; exact ⟨e, by omega⟩
      · exfalso; rw [e] at hfull; omega
    have go : ∀ M, SetTable.sizeAbove (SetTable.grown (L.length + 1)) - 1 = M → MaskOk M → SetTable.sizeAbove (SetTable.grown (L.length + 1)) ≤ 128 → (L.length + 1) * 5 < M * 3 →
        wpAny (model P w) A (setRelay a (SetTable.grown (L.length + 1))) (fun _ s' => wpAny (model P w) A (pure true) Q E s') E { s with heap := h1 } := fun M h1' h2' h3' h4' => by
      refine growAt (s := { s with heap := h1 }) ho1 ⟨hex.1, hex.2.1, hex.2.2⟩ rfl hin hsz1 T.dm (by rw [hes, hmask]; rcases two with ⟨e, e2⟩ | ⟨e, e2⟩ <;> omega) nd1 tup1 ld1 (by rw [hlen]; exact hfew) h1' h2' h3' (by rw [hlen]; exact h4') ?_
      intro h2 L2 es2 ep2 t3 sb2 R2 pm2
      exact wpAny_pure (hQ h2 L2 es2 ep2 t3 (sb.trans sb2) R2 (pm2.trans pm))
    rcases two with ⟨_, e2⟩ | ⟨_, e2⟩
    · refine go 31 (by rw [e2, size_20]) (.inr (.inl rfl)) (by rw [e2, size_20]; decide) (by omega)
    · refine go 127 (by rw [e2, size_76]) (.inr (.inr rfl)) (by rw [e2, size_76]; decide) (by omega)
  · first
      | refine wp_if_neg (by simp [hf]) ?_
      | (refine wpAny_bind ?_; refine wp_if_neg (by simp [hf]) ?_; refine wpAny_pure ?_)
    refine wpAny_pure (hQ h1 L1 es1 (ep + 1) t2 sb ⟨⟨_, ho1, ⟨hex.1, hex.2.1, hex.2.2⟩, rfl⟩, hin, T, nd1, tup1, ld1, ?_, by rw [hlen]; exact hfew⟩ pm)
    have h := hf
    unfold SetTable.tooFull at h
    rw [decide_eq_true_eq, hfill] at h
    rw [hlen]
    omega
theorem addAt (R : SetM P w s.heap a L es ep t) {x : Addr} {k : List Key} (hx : IsM P w s.heap k x) (hu : A.units < cLine) (hfew : L.length + 1 < 77) {Q : Bool → Shared → Prop}
    (hQ : ∀ b h' L' es' ep' t', Heap.SameBut a s.heap h' → SetM P w h' a L' es' ep' t' → (k ∈ L.map (·.2) → L' = L) → (k ∉ L.map (·.2) → L'.Perm ((x, k) :: L)) → Q b { s with heap := h' }) :
    wpAny (model P w) A (setAddHashed a (.ref x) (mh P w k)) Q E s := by
  obtain ⟨o, ho, hex, hd⟩ := R.ob
  unfold setAddHashed
  refine wpAny_holding ?_
  rw [show (100000 : Nat) = 99999 + 1 from rfl, setAddHashedIn_succ]
  refine wpAny_bind (wpAny_setState_of ho hd R.fits ?_)
  dsimp only
  refine wp_if_neg (by simp [byScan, Value.scannable]) ?_
  try refine wpAny_bind (wpAny_pure ?_)
  refine wpAny_bind (lookAt R hx hu (fun hm => ?_) fun K hm hK hb => ?_)
  · dsimp only
    exact wpAny_pure (hQ false s.heap L es ep t (Heap.SameBut.refl a s.heap) R (fun _ => rfl) fun z => absurd hm z)
  · dsimp only
    refine wpAny_bind (wpAny_setState_of ho hd R.fits ?_)
    dsimp only
    obtain ⟨q1, q2, q3, q4, q5, q6, q7, q8, q9⟩ := R.tab.put hK hb
    generalize hpt : t.put (way t.mask (mh P w k) K) = pt at q1 q3 q4 q5 q6 q7 q8 q9 ⊢
    obtain ⟨t1, p⟩ := pt
    dsimp only at q1 q3 q4 q5 q6 q7 q8 q9 ⊢
    subst q1
    have hin : (SetTable.insertAt es (SetTable.below t.place (way t.mask (mh P w k) K)) (mh P w k, Value.ref x)).toList = rowsM P w (L.take (SetTable.below t.place (way t.mask (mh P w k) K)) ++ (x, k) :: L.drop (SetTable.below t.place (way t.mask (mh P w k) K))) := by
      rw [SetTable.toList_insertAt, insRows, R.rows]
    have hhs : (L.take (SetTable.below t.place (way t.mask (mh P w k) K)) ++ (x, k) :: L.drop (SetTable.below t.place (way t.mask (mh P w k) K))).map (fun p => mh P w p.2) = (L.map fun p => mh P w p.2).take (SetTable.below t.place (way t.mask (mh P w k) K)) ++ mh P w k :: (L.map fun p => mh P w p.2).drop (SetTable.below t.place (way t.mask (mh P w k) K)) := by
      rw [List.map_append, List.map_cons, List.map_take, List.map_drop]
    rw [← hhs] at q3
    rw [List.length_map] at q9
    have pm := insPerm L (SetTable.below t.place (way t.mask (mh P w k) K)) (x, k)
    generalize L.take (SetTable.below t.place (way t.mask (mh P w k) K)) ++ (x, k) :: L.drop (SetTable.below t.place (way t.mask (mh P w k) K)) = L1 at pm q3 hin
    generalize SetTable.insertAt es (SetTable.below t.place (way t.mask (mh P w k) K)) (mh P w k, Value.ref x) = es1 at hin ⊢
    have fin : ∀ r : Bool, wpAny (model P w) A (do
        storeSet a es1 (if r then t1 else { t1 with plain := false })
        if !false && (if r then t1 else { t1 with plain := false } : SetTable).tooFull then setRelay a (SetTable.grown (es.size + 1))
        return true) Q E s := fun r => by
      cases r with
      | true => exact storedAt (t2 := t1) ho hex hd R hx hm hfew pm hin q3 q4 q5 q9 fun h' L' es' ep' t' sb R' pm' => hQ true h' L' es' ep' t' sb R' (fun z => absurd z hm) fun _ => pm'
      | false => exact storedAt (t2 := { t1 with plain := false }) ho hex hd R hx hm hfew pm hin ⟨q3.ris, q3.dm, q3.sz, q3.mok, q3.bd, q3.reach⟩ q4 q5 q9 fun h' L' es' ep' t' sb R' pm' => hQ true h' L' es' ep' t' sb R' (fun z => absurd z hm) fun _ => pm'
    by_cases hp : t1.plain = true
    · first
        | (refine wpAny_bind ?_; refine wp_if_pos hp ?_; refine byValKey hx fun r => ?_)
        | refine wp_if_pos hp (wpAny_bind (byValKey hx fun r => ?_))
      exact fin r
    · first
        | (refine wpAny_bind ?_; refine wp_if_neg hp ?_; refine wpAny_pure ?_)
        | refine wp_if_neg hp (wpAny_bind (wpAny_pure ?_))
      exact fin true
/-! ### set(xs) -/
structure Had (ks : List MRow) (i : Nat) (L : List MRow) : Prop where
  sub : ∀ p ∈ L, p ∈ ks.take i
  all : ∀ p ∈ ks.take i, p.2 ∈ L.map (·.2)
  len : L.length ≤ i
theorem Had.none (ks : List MRow) : Had ks 0 [] := ⟨fun p h => (by cases h), fun p h => (by simp at h), Nat.le_refl _⟩
theorem Had.next {ks L L' : List MRow} {i : Nat} {x : MRow} (g : Had ks i L) (h : ks[i]? = some x) (c1 : x.2 ∈ L.map (·.2) → L' = L) (c2 : x.2 ∉ L.map (·.2) → L'.Perm (x :: L)) : Had ks (i + 1) L' := by
  have tk := take_next h
  rcases Classical.em (x.2 ∈ L.map (·.2)) with c | c
  · rw [c1 c]
    refine ⟨fun p hp => ?_, fun p hp => ?_, Nat.le_succ_of_le g.len⟩
    · rw [tk]; exact List.mem_append_left _ (g.sub p hp)
    · rw [tk] at hp
      rcases List.mem_append.mp hp with z | z
      · exact g.all p z
      · rw [List.mem_singleton.mp z]; exact c
  · have pm := c2 c
    refine ⟨fun p hp => ?_, fun p hp => ?_, ?_⟩
    · rw [tk]
      rcases List.mem_cons.mp (pm.mem_iff.mp hp) with e | z
      · rw [e]; exact List.mem_append_right _ (List.mem_singleton.mpr rfl)
      · exact List.mem_append_left _ (g.sub p z)
    · rw [(pm.map (·.2)).mem_iff, List.map_cons]
      rw [tk] at hp
      rcases List.mem_append.mp hp with z | z
      · exact List.mem_cons_of_mem _ (g.all p z)
      · rw [List.mem_singleton.mp z]; exact List.mem_cons_self
    · rw [pm.length_eq, List.length_cons]
      exact Nat.succ_le_succ g.len
theorem isM_keep {h h' : Heap} {k : List Key} {b : Addr} (x : IsM P w h k b) (hk : ∀ c o, h.get? c = some o → h'.get? c = some o) : IsM P w h' k b := by
  obtain ⟨o, items, n, ho, r⟩ := x
  exact ⟨o, items, n, hk b o ho, r⟩
theorem SetM.move {h h' : Heap} (R : SetM P w h a L es ep t) (ha : ∀ o, h.get? a = some o → h'.get? a = some o) (ht : ∀ p ∈ L, IsM P w h' p.2 p.1) : SetM P w h' a L es ep t := by
  obtain ⟨o, ho, r⟩ := R.ob
  exact ⟨⟨o, ha o ho, r⟩, R.rows, R.tab, R.nd, ht, R.led, R.room, R.few⟩
abbrev newT (w : World) : SetTable := .fresh 0 0 (!w.params.followText "set-order")
abbrev newSet (w : World) : Obj := { cls := .type "set", dict := none, data := .set #[] 0 (newT w) }
theorem setM_new {h : Heap} (ho : h.get? a = some (newSet w)) : SetM P w h a [] #[] 0 (newT w) where
  ob := ⟨_, ho, ⟨rfl, rfl, rfl⟩, rfl⟩
  rows := rfl
  tab := ⟨List.Pairwise.nil, rfl, rfl, .inl rfl, fun x hx => (by cases hx), fun i h j hi => (by simp at hi)⟩
  nd := List.nodup_nil
  tup := fun p hp => (by cases hp)
  led := by
    show _ ∨ (!w.params.followText "set-order") = true
    cases w.params.followText "set-order"
    · exact .inr rfl
    · exact .inl rfl
  room := by
    show 0 * 5 < 7 * 3
    decide
  few := by
    show 0 < 77
    decide
theorem fillLoop {I : Addr} {fp wr : List Addr} {G : Array GenState → Array GenState → Prop} {n : Nat} {Pv : Nat → Value → Prop} {St : Nat → Shared → Prop} {R : Result → Shared → Prop}
    (W : WalksS P w A.in1 I fp wr G n Pv St) (S : Addr) (hSf : S ∉ fp) (ks : List MRow) (hn : n = ks.length) (hfew : ks.length < 77) (hval : ∀ i v, Pv i v → ∃ p, ks[i]? = some p ∧ v = .ref p.1)
    (h0 : Heap) (hk : ∀ p ∈ ks, IsM P w h0 p.2 p.1) (hS0 : h0.get? S = none) (hw0 : ∀ b ∈ wr, h0.get? b = none) (hu : A.in1.units < cLine) :
    ∀ (k i : Nat) (s : Shared), n - i = k → i ≤ n → St i s → (∀ b o, h0.get? b = some o → s.heap.get? b = some o) → (∃ L es ep t, SetM P w s.heap S L es ep t ∧ Had ks i L) →
      (∀ s' L es ep t, Moved (S :: wr) G s s' → SetM P w s'.heap S L es ep t → Had ks n L → (∀ b o, h0.get? b = some o → s'.heap.get? b = some o) → R (.ok (.ret .none)) s') →
      codeAny (model P w) A (.builtin "set.update.loop" ⟨[.ref S, .ref I], []⟩) R s := by
  have hSw : S ∉ wr := fun h => hSf (W.sub _ h)
  have hsub : ∀ b ∈ wr, b ∈ S :: wr := fun b hb => List.mem_cons_of_mem _ hb
  have onM : ∀ {s s' : Shared}, Moved wr G s s' → (∀ b o, h0.get? b = some o → s.heap.get? b = some o) → ∀ b o, h0.get? b = some o → s'.heap.get? b = some o := fun hm hkp b o e =>
    hm.heap b o (fun hb => by rw [hw0 b hb] at e; cases e) (hkp b o e)
  intro k
  induction k with
  | zero =>
    intro i s hk' hi hst hkp ⟨L, es, ep, t, hS, g⟩ hR
    have hin : i = n := by omega
    subst hin
    refine codeAny_builtin F.entry_set_update_loop ?_
    rw [Around.under_plainId F.plain_set_update_loop _]
    show wpAny _ A.in1 (pyNext (.ref I) >>= _) _ _ s
    refine wpAny_bind (W.done s _ _ hst fun s' hm => ?_)
    show wpAny _ A.in1 (ret Value.none) _ _ s'
    have hkp' := onM hm hkp
    have sub : ∀ p ∈ L, p ∈ ks := fun p hp => List.mem_of_mem_take (g.sub p hp)
    exact wpAny_pure (hR s' L es ep t (hm.mono hsub) (hS.move (fun o e => hm.heap S o hSw e) fun p hp => isM_keep (hk p (sub p hp)) hkp') g hkp')
  | succ k ih =>
    intro i s hk' hi hst hkp ⟨L, es, ep, t, hS, g⟩ hR
    have hlt : i < n := by omega
    refine codeAny_builtin F.entry_set_update_loop ?_
    rw [Around.under_plainId F.plain_set_update_loop _]
    show wpAny _ A.in1 (pyNext (.ref I) >>= _) _ _ s
    refine wpAny_bind (W.item i s _ _ hlt hst fun v s' hP hst' hm => ?_)
    obtain ⟨p, hp, rfl⟩ := hval i v hP
    have hkp' := onM hm hkp
    have sub : ∀ p ∈ L, p ∈ ks := fun p hp => List.mem_of_mem_take (g.sub p hp)
    have hS' : SetM P w s'.heap S L es ep t := hS.move (fun o e => hm.heap S o hSw e) fun q hq => isM_keep (hk q (sub q hq)) hkp'
    have hx : IsM P w s'.heap p.2 p.1 := isM_keep (hk p (List.mem_of_getElem? hp)) hkp'
    show wpAny _ A.in1 (holding [Value.ref p.1] (setAdd S (.ref p.1)) >>= _) _ _ s'
    refine wpAny_bind (wpAny_holding ?_)
    unfold setAdd
    refine wpAny_holding ?_
    refine wpAny_bind (wpAny_pyHash_tuple hu hx ?_)
    refine addAt (s := { s' with toks := s'.toks + (p.2.length + 1) }) hS' hx hu (by have := g.len; omega) fun b h' L' es' ep' t' hsb hS2 c1 c2 => ?_
    have g' : Had ks (i + 1) L' := g.next hp c1 c2
    have hkp2 : ∀ b o, h0.get? b = some o → h'.get? b = some o := fun b o e => (hsb.2 b (fun z => by rw [z, hS0] at e; cases e)).trans (hkp' b o e)
    refine wpAny_pure ⟨plainId_quiet F.plain_set_update_loop _, ih (i + 1) _ (by omega) hlt (W.frame _ s' _ _ hst' (Nat.le_add_right _ _) fun b hb o e => ?_) hkp2 ⟨L', es', ep', t', hS2, g'⟩ fun s'' L2 es2 ep2 t2 hm'' hS'' g'' hkp'' => ?_⟩
    · rw [hsb.2 b (fun h : b = S => hSf (by rw [← h]; exact hb))]; exact e
    · refine hR s'' L2 es2 ep2 t2 (Moved.trans W.gtrans ((hm.mono hsub).then_heap (Nat.le_add_right _ _) fun b o hb e => ?_) hm'') hS'' g'' hkp''
      rw [hsb.2 b (fun h : b = S => hb (by rw [h]; exact List.mem_cons_self))]; exact e
end
end BwS


set_option Elab.async false
set_option linter.all false
set_option maxRecDepth 100000
set_option maxHeartbeats 4000000
namespace BwS
open PySem PySem.Spec PyProof.Rows L2
section
variable {P : Program} {w : World} {A : Around} {E : Value → Shared → Prop} {s : Shared}
/-- set(xs), xs a list of tuples -/
theorem callSetM {l : Addr} {items : Array Value} (ks : List MRow) {Q : Value → Shared → Prop} (hh : A.handled = none) (hl : s.heap.IsList l items) (hit : items.toList = ks.map fun p => Value.ref p.1)
    (hk : ∀ p ∈ ks, IsM P w s.heap p.2 p.1) (hfew : ks.length < 77) (hu : A.units + 3 < cLine)
    (h : ∀ (h' : Heap) (tk : Nat) L es ep t, SetM P w h' s.heap.objs.size L es ep t → Had ks ks.length L → (∀ b o, s.heap.get? b = some o → h'.get? b = some o) → Q (.ref s.heap.objs.size) { s with heap := h', toks := tk }) :
    wpAny (model P w) A (call (.type "set") [.ref l]) Q E s := by
  have hisz : items.size = ks.length := by
    have q := congrArg List.length hit
    rw [Array.length_toList, List.length_map] at q
    exact q
  obtain ⟨c, tl, hmro⟩ := F.called_set.mro
  have hmade := F.called_set.made
  have hsub := F.called_set.sub
  refine wpAny_call (codeAny_of_tree ?_)
  show wpAny _ _ (callAny (.type "set") _) _ _ _
  refine wpAny_pure ⟨Code.quiet_builtin _ (by decide +kernel), codeAny_builtin F.entry_type_call ?_⟩
  rw [Around.under_plain (weight_type_call_type "set" [.ref l] []) rfl]
  have h1 := F.called_set.notType
  have h2 := F.called_set.canCreate
  have hct := F.typeCall_set_1 (.ref l)
  repeat (any_goals (first | assumption | wp_step))
  refine codeAny_mono (code_set_led1 (.ref l) (E := E) (Q₁ := fun obj s₁ => obj = .ref s.heap.objs.size ∧ s₁ = { s with heap := s.heap.push (newSet w) }) ⟨rfl, rfl⟩) fun r s₁ hr => ?_
  cases r with
  | error e => exact hr
  | ok fl =>
    cases fl with
    | ret obj =>
      obtain ⟨rfl, rfl⟩ := hr
      have hS : (s.heap.push (newSet w)).get? s.heap.objs.size = some (newSet w) := Heap.get?_push_size _ rfl
      have hT : Shared.TypeIs { s with heap := s.heap.push (newSet w) } (.ref s.heap.objs.size) "set" := ⟨_, hS, rfl⟩
      have hli := F.called_set.init.lookup
      have hbi := F.called_set.init.bind (.ref s.heap.objs.size)
      repeat (any_goals (first | assumption | wp_step))
      refine codeAny_mono (codeAny_call_builtin (R := wants (fun r s₂ => r = .none ∧ ∃ h' tk L es ep t, s₂ = { s with heap := h', toks := tk } ∧ SetM P w h' s.heap.objs.size L es ep t ∧ Had ks ks.length L ∧
          (∀ b o, s.heap.get? b = some o → h'.get? b = some o)) E) F.called_set.init.plain F.entry_set_init (check_set_init_1 hT ?_)) fun r₂ s₂ hr₂ => ?_
      · obtain ⟨ol, hol, hcl, nl, hdl⟩ := hl
        obtain ⟨ocls, odict, odata, oslots⟩ := ol
        simp only at hcl hdl
        subst hcl; subst hdl
        have hol' : (s.heap.push (newSet w)).get? l = some { cls := .type "list", dict := odict, data := .seq items nl, slots := oslots } := Heap.get?_push_of_some _ hol
        have hsls := F.sub_list_set
        have hslf := F.sub_list_frozenset
        have hne : (Value.type "list" == Value.type "dict") = false := by decide
        have hl1 : (s.heap.push (newSet w)).IsList l items := ⟨_, hol', rfl, nl, rfl⟩
        unfold Builtin.«set.__init__» noKeywords Builtin.Frozenset.updateFrom
        generalize hPI : pyIter = PI
        wp_walk
        subst hPI
        refine wpAny_pyIter_list hl1 ?_
        refine wpAny_bind (wpAny_runValue ?_)
        have hlS : l < s.heap.objs.size := Heap.lt_size hol
        have hh3 : A.in1.in1.in1.handled = none := by simp [hh]
        have hneI : l ≠ (s.heap.push (newSet w)).objs.size := by
          rw [Heap.size_push]; exact Nat.ne_of_lt (Nat.lt_succ_of_lt hlS)
        have hSf : s.heap.objs.size ∉ [(s.heap.push (newSet w)).objs.size, l] := by
          rw [Heap.size_push]; simp only [List.mem_cons, List.mem_singleton, List.not_mem_nil, or_false, not_or]
          exact ⟨Nat.ne_of_lt (Nat.lt_succ_self _), Nat.ne_of_gt hlS⟩
        have hval : ∀ (i : Nat) (v : Value), items[i]? = some v → ∃ p, ks[i]? = some p ∧ v = .ref p.1 := fun i v hv => by
          have q : items.toList[i]? = some v := by rw [Array.getElem?_toList]; exact hv
          rw [hit, List.getElem?_map] at q
          cases hq : ks[i]? with
          | none => rw [hq] at q; cases q
          | some p =>
            rw [hq] at q
            exact ⟨p, rfl, (Option.some.inj q).symm⟩
        have none_of : ∀ b, s.heap.objs.size ≤ b → s.heap.get? b = none := fun b hb => by
          cases q : s.heap.get? b with
          | none => rfl
          | some o => exact absurd (Nat.lt_of_lt_of_le (Heap.lt_size q) hb) (Nat.lt_irrefl _)
        refine fillLoop ((Walks.list hh3 _ l hneI items).toS) s.heap.objs.size
          hSf ks hisz hfew hval s.heap hk (none_of _ (Nat.le_refl _)) (fun b hb => none_of b (by
            rw [List.mem_singleton.mp hb, Heap.size_push]
            exact Nat.le_succ _)) hu (items.size - 0) 0 _ (by omega) (Nat.zero_le _)
          ⟨⟨_, Heap.get?_push_size _ rfl, rfl, rfl⟩, (hl1.push _)⟩ (fun b o e => Heap.get?_push_of_some _ (Heap.get?_push_of_some _ e)) ?hS0 ?hR
        case hS0 =>
          have hget : ((s.heap.push (newSet w)).push { cls := .type "list_iterator", data := .fields #[.ref l, .int 0 0] }).get? s.heap.objs.size = some (newSet w) := Heap.get?_push_of_some _ hS
          exact ⟨[], #[], 0, _, setM_new hget, Had.none ks⟩
        case hR =>
          intro s' L es ep t hm hS' g' hkp
          obtain ⟨h', g2, d', tk', os'⟩ := s'
          have eg : g2 = s.gens := hm.gens
          have ed : d' = s.drawn := hm.drawn
          have eo : os' = s.os := hm.os
          subst eg; subst ed; subst eo
          show wpAny _ _ _ _ _ _
          refine wpAny_pure ?_
          show wpAny _ _ (ret Value.none) _ _ _
          rw [hisz] at g'
          exact wpAny_pure ⟨rfl, h', tk', L, es, ep, t, rfl, hS', g', hkp⟩
      · cases r₂ with
        | error e => exact hr₂
        | ok fl₂ =>
          cases fl₂ with
          | ret r =>
            obtain ⟨rfl, h', tk, L, es, ep, t, rfl, hS', g', hk'⟩ := hr₂
            repeat (any_goals (first | assumption | wp_step))
            exact h _ _ _ _ _ _ hS' g' hk'
          | _ => exact hr₂.elim
    | _ => exact hr.elim

/-! ### sorted -/
def keyD : Key → PyData
  | .inl i => .int i
  | .inr x => .str x
def rowD (p : MRow) : PyData := .tuple (p.2.map keyD)
theorem readsItems {h : Heap} {k : List Key} {vs : List Value} (x : ItemsAre (mixKind P w) k vs) : ReadsAll h vs (k.map keyD) [] := by
  induction x with
  | nil => exact .nil
  | @cons k0 v ks us h1 _ ih =>
    have r0 : Reads h v (keyD k0) [] := by
      rcases keyIs_shape (k := k0) (v := v) h1 with ⟨i, t, e, e'⟩ | ⟨x, t, e, e'⟩
      · subst e e'; exact .int i t
      · subst e e'; exact .str x t
    exact ReadsAll.cons (as := []) (bs := []) r0 ih
theorem readsRow {h : Heap} {p : MRow} (x : IsM P w h p.2 p.1) : Reads h (.ref p.1) (rowD p) [] := by
  obtain ⟨o, items, n, ho, hc, hd, hi⟩ := x
  exact .tuple ho hc hd (readsItems hi)
theorem eachRef {R : Value → MRow → Prop} (hR : ∀ p, R (.ref p.1) p) : ∀ L : List MRow, PySem.W.EachIs R (L.map fun q => Value.ref q.1) L
  | [] => .nil
  | p :: L => .cons (hR p) (eachRef hR L)
theorem eachRefM {R : Value → MRow → Prop} : ∀ L : List MRow, (∀ p ∈ L, R (.ref p.1) p) → PySem.W.EachIs R (L.map fun q => Value.ref q.1) L
  | [], _ => .nil
  | p :: L, h => .cons (h p List.mem_cons_self) (eachRefM L fun q hq => h q (List.mem_cons_of_mem _ hq))
theorem each_out : ∀ {vs : List Value} {L : List MRow}, PySem.W.EachIs (fun v (p : MRow) => v = Value.ref p.1) vs L → vs = L.map fun q => Value.ref q.1
  | _, _, .nil => rfl
  | _, _, .cons e t => by rw [e, each_out t] <;> rfl
theorem refRows {L : List MRow} : ∀ vs : List Value, (∀ v ∈ vs, ∃ q ∈ L, v = Value.ref q.1) → ∃ L1 : List MRow, vs = L1.map (fun q => Value.ref q.1) ∧ ∀ q ∈ L1, q ∈ L
  | [], _ => ⟨[], rfl, fun q hq => (by cases hq)⟩
  | v :: vs, hv => by
    obtain ⟨q, hq, e⟩ := hv v List.mem_cons_self
    obtain ⟨L1, e1, hs⟩ := refRows vs fun u hu => hv u (List.mem_cons_of_mem _ hu)
    refine ⟨q :: L1, by rw [List.map_cons, e, e1], fun r hr => ?_⟩
    rcases List.mem_cons.mp hr with z | z
    · rw [z]; exact hq
    · exact hs r z
variable {a : Addr} {L : List MRow} {es : Array (Int × Value)} {ep : Nat} {t : SetTable}
/-- sorted(a set of tuples that can be compared) -/
theorem sortSetM {Q : Value → Shared → Prop} (R : SetM P w s.heap a L es ep t) (hh : A.handled = none) (hal : ∀ p ∈ L, ∀ q ∈ L, PySem.W.alike (rowD p) (rowD q) = true) (hne : ∀ p ∈ L, p.2 ≠ []) (hdp : ∀ p ∈ L, A.units + 2 + (rowD p).depth < cLine)
    (hQ : ∀ s' p (out : Array Value) (c : Nat) (L' : List MRow), (∀ b o, s.heap.get? b = some o → s'.heap.get? b = some o) → s'.gens = s.gens → s'.os = s.os → s.heap.objs.size ≤ p →
      s'.heap.get? p = some (seqObj "list" out c) → out.toList = L'.map (fun q => Value.ref q.1) → (∃ L0 : List MRow, L0.Perm L ∧ L' = L0.mergeSort (PySem.W.dataLe false rowD)) → Q (.ref p) s') :
    wpAny (model P w) A (call (.builtin "sorted") [.ref a]) Q E s := by
  obtain ⟨o, ho, hex, hd⟩ := R.ob
  have hsz := rowsLen R.rows
  have hfew := R.few
  refine Calls.call_function_entry kind_sorted plain_sorted entry_sorted (args_sorted1 _) ?_
  unfold Builtin.«sorted»
  refine wpAny_bind (m := checkCount "sorted" 1 1 _) (wpAny_pure ?_)
  refine wpAny_bind (collect_set (A := A.in1) hh ⟨o, ho, hex.1, hd⟩ R.fits (by unfold scanBound; omega) R.tab.ris R.led fun s1 vs k1 hz g1 o1 pm => ?_)
  have hes : es.toList.map (·.2) = L.map fun q => Value.ref q.1 := by
    rw [R.rows]
    unfold rowsM
    rw [List.map_map] <;> rfl
  rw [hes] at pm
  obtain ⟨L0, e0, hs0⟩ := refRows (L := L) vs fun v hv => by
    obtain ⟨q, hq, e⟩ := List.mem_map.mp (pm.mem_iff.mp hv)
    exact ⟨q, hq, e.symm⟩
  have one : ∀ q ∈ L, ∀ r ∈ L, q.1 = r.1 → q = r := fun q hq r hr e => by
    have a1 := R.tup q hq
    have a2 := R.tup r hr
    rw [e] at a1
    exact Prod.ext e (a1.inj a2)
  have pL : L0.Perm L := by
    rw [e0] at pm
    have nL : L.Nodup := nodup_of_map R.nd
    have nref : (L.map fun q => Value.ref q.1).Nodup := by
      refine List.pairwise_map.mpr (List.Pairwise.imp_of_mem (fun {q r} hq hr hne e => ?_) nL)
      injection e with e
      exact hne (one q hq r hr e)
    have n0 : L0.Nodup := nodup_of_map (pm.nodup_iff.mpr nref)
    refine (List.perm_ext_iff_of_nodup n0 nL).mpr fun q => ⟨hs0 q, fun hq => ?_⟩
    have hm : Value.ref q.1 ∈ L0.map (fun q => Value.ref q.1) := pm.mem_iff.mpr (List.mem_map.mpr ⟨q, hq, rfl⟩)
    obtain ⟨r, hr, e⟩ := List.mem_map.mp hm
    injection e with e
    rw [← one r (hs0 r hr) q hq e]
    exact hr
  have hvl : vs.length < 77 := by rw [pm.length_eq, List.length_map]; exact hfew
  refine wpAny_bind (wpAny_newList ?_ (by rw [sizeLine_eq]; omega))
  have hoL : (s1.heap.push (seqObj "list" vs.toArray 0)).get? s1.heap.objs.size = some (seqObj "list" vs.toArray 0) := Heap.get?_push_size _ rfl
  have rd : ∀ q ∈ L, Reads (s1.heap.push (seqObj "list" vs.toArray 0)) (.ref q.1) (rowD q) [] := fun q hq => readsRow (P := P) (w := w) (isM_keep (R.tup q hq) fun b u e => Heap.get?_push_of_some _ (k1 b u e))
  refine wpAny_bind (wpAny_holding (PySem.W.list_sort_data (s := { s1 with heap := s1.heap.push (seqObj "list" vs.toArray 0) }) (bs := L0) (enc := rowD) (R := fun v p => v = Value.ref p.1) hoL (by rw [e0]; exact eachRef (fun _ => rfl) L0)
    (by rw [e0]; exact eachRefM L0 fun q hq => ⟨[], by simpa [e0] using rd q (hs0 q hq), by simp⟩) (fun d hd d' hd' => ?_) (.inl fun d hd => ?_) ?_ (fun p hp => ?_) fun out ol oe => ?_))
  · obtain ⟨q, hq, rfl⟩ := List.mem_map.mp hd
    obtain ⟨r, hr, rfl⟩ := List.mem_map.mp hd'
    exact hal q (hs0 q hq) r (hs0 r hr)
  · obtain ⟨q, hq, rfl⟩ := List.mem_map.mp hd
    have hn := hne q (hs0 q hq)
    obtain ⟨q1, q2⟩ := q
    cases q2 with
    | nil => exact absurd rfl hn
    | cons x r => exact ⟨keyD x, r.map keyD, rfl⟩
  · rw [pL.length_eq, sizeLine_eq]; omega
  · have := hdp p (hs0 p hp)
    show A.units + 1 + 1 + (rowD p).depth < cLine
    omega
  · obtain ⟨c, hc⟩ := sortedHeap_at (vs := vs) (out := out.toArray) hoL
    refine wpAny_pure ⟨_, rfl, hQ _ s1.heap.objs.size out.toArray c _ (fun b u e => ?_) g1 o1 hz hc (by simpa using each_out oe) ⟨L0, pL, rfl⟩⟩
    have q := k1 b u e
    have hlt := Heap.lt_size q
    show (sortedHeap (s1.heap.push (seqObj "list" vs.toArray 0)) s1.heap.objs.size vs out.toArray).get? b = some u
    rw [sortedHeap_old (Nat.ne_of_lt hlt) (by rw [size_push']; exact Nat.lt_succ_of_lt hlt)]
    exact Heap.get?_push_of_some _ q
end
end BwS


set_option Elab.async false
set_option linter.all false
set_option maxRecDepth 100000
set_option maxHeartbeats 4000000
namespace BwS
open PySem PySem.Spec PyProof.Rows L2
/-- the set at a, its tuples told elsewhere -/
def SetM0 (P : Program) (w : World) (h : Heap) (a : Addr) (L : List MRow) : Prop :=
  ∃ (es : Array (Int × Value)) (ep : Nat) (t : SetTable), (∃ o, h.get? a = some o ∧ o.ExactSet ∧ o.data = .set es ep t) ∧ es.toList = rowsM P w L ∧ TabOk t (L.map fun p => mh P w p.2) ∧ (L.map (·.2)).Nodup ∧
    (w.params.followText "set-order" = true ∨ t.led = true) ∧ L.length * 5 < t.mask * 3 ∧ L.length < 77
def SetMO (P : Program) (w : World) (a : Addr) (L : List MRow) : HO := .ext fun h => SetM0 P w h a L
theorem SetM.bare {P : Program} {w : World} {h : Heap} {a : Addr} {L : List MRow} {es : Array (Int × Value)} {ep : Nat} {t : SetTable} (R : SetM P w h a L es ep t) : SetM0 P w h a L :=
  ⟨es, ep, t, R.ob, R.rows, R.tab, R.nd, R.led, R.room, R.few⟩
theorem setM0_full {P : Program} {w : World} {h : Heap} {a : Addr} {L : List MRow} (R : SetM0 P w h a L) (ht : ∀ p ∈ L, IsM P w h p.2 p.1) : ∃ es ep t, SetM P w h a L es ep t := by
  obtain ⟨es, ep, t, h1, h2, h3, h4, h6, h7, h8⟩ := R
  exact ⟨es, ep, t, h1, h2, h3, h4, ht, h6, h7, h8⟩
theorem setMO_new {P : Program} {w : World} {H : Hp} {h : Heap} {a : Addr} {L : List MRow} (R : SetM0 P w h a L) : ObjOk P w H h a (SetMO P w a L) := by
  have ⟨es, ep, t, ⟨o, ho, r⟩, q⟩ := R
  refine ⟨R, ⟨o, ho⟩, fun h1 h2 p k => ?_⟩
  have ⟨es', ep', t', ⟨o', ho', r'⟩, q'⟩ := (show SetM0 P w h1 a L from p)
  exact ⟨es', ep', t', ⟨o', k o' ho', r'⟩, q'⟩
theorem rowRefs_of : ∀ {ks : List MRow} {us : List Value}, Vals (ks.map fun p => V.ref p.1) us → us = ks.map fun p => Value.ref p.1
  | [], _, .nil => rfl
  | p :: ks, _, .cons r t => by
    cases r
    rw [rowRefs_of t] <;> rfl
theorem rowRefs_to : ∀ (ks : List MRow), Vals (ks.map fun p => V.ref p.1) (ks.map fun p => Value.ref p.1)
  | [] => .nil
  | p :: ks => .cons rfl (rowRefs_to ks)
section
variable {X : Cx}
theorem isM_at {pins : List (Addr × Obj)} {σ : L2.St} {H : Hp} {s : Shared} {b : Addr} {k : List Key} (I : Inv X pins σ H s) (h : SqT X.K H b (k.map kV)) : IsM X.prog X.w s.heap k b := by
  obtain ⟨its, r, ⟨o, ho, hc, n, hd⟩, _⟩ := I.tuple h
  exact ⟨o, its.toArray, n, ho, hc, hd, by simpa using items_are r⟩
def rSetM (K : PySem.W.Frag) (P : Program) (w : World) : List V → Hp → VK → Prop := fun xs H Q => ∃ (l : Addr) (ks : List MRow), xs = [V.ref l] ∧ SqL K H l (ks.map fun p => V.ref p.1) ∧ (∀ p ∈ ks, SqT K H p.1 (p.2.map kV)) ∧ ks.length < 77 ∧
  ∀ a L, H a = none → (∀ p ∈ L, p ∈ ks) → (∀ p ∈ ks, p.2 ∈ L.map (·.2)) → (L.map (·.2)).Nodup → Q (.ref a) (upd H a (SetMO P w a L))
theorem cr_setM (hc : X.calm = true) (hu : X.A.units + 64 < cLine) : CallR X (.type "set") (rSetM X.K X.prog X.w) := by
  intro pins s σ H xs us Q I r h
  obtain ⟨l, ks, rfl, hl, hk, hf, q⟩ := h
  rw [Vals.ref1 r]
  obtain ⟨its, rv, pl, hz⟩ := I.list hl
  have hn : H s.heap.objs.size = none := I.hok.fresh (Nat.le_refl _)
  refine callSetM (P := X.prog) (w := X.w) ks (I.ok.hd hc) pl.isList (by simpa using rowRefs_of rv) (fun p hp => isM_at I (hk p hp)) hf (by omega) fun h' tk L es ep t R g k => ?_
  refine ⟨.ref s.heap.objs.size, upd H s.heap.objs.size (SetMO X.prog X.w s.heap.objs.size L), I.laid (t' := tk) k (Nat.le_refl _) (setMO_new R.bare), rfl, q _ L hn (fun p hp => ?_) (fun p hp => ?_) R.nd⟩
  · exact List.mem_of_mem_take (g.sub p hp)
  · exact g.all p (by rw [List.take_length]; exact hp)
def rSortM (K : PySem.W.Frag) (P : Program) (w : World) (A : Around) : List V → Hp → VK → Prop := fun vs H Q => ∃ (a : Addr) (L : List MRow), vs = [V.ref a] ∧ H a = some (SetMO P w a L) ∧ (∀ p ∈ L, SqT K H p.1 (p.2.map kV)) ∧
  (∀ p ∈ L, ∀ q ∈ L, PySem.W.alike (rowD p) (rowD q) = true) ∧ (∀ p ∈ L, p.2 ≠ []) ∧ (∀ p ∈ L, A.units + 2 + (rowD p).depth < cLine) ∧
  ∀ (L' : List MRow) (p : Addr), (∃ L0 : List MRow, L0.Perm L ∧ L' = L0.mergeSort (PySem.W.dataLe false rowD)) → L'.length < 77 → H p = none → Q (.ref p) (upd H p (.lst (L'.map fun q => V.ref q.1)))
theorem cr_sortM (hc : X.calm = true) : CallR X (.builtin "sorted") (rSortM X.K X.prog X.w X.A) := by
  intro pins s σ H vs us Q I r h
  obtain ⟨a, L, rfl, ha, hk, hal, hne, hdp, q⟩ := h
  have R0 : SetM0 X.prog X.w s.heap a L := (I.hok a _ ha).1
  obtain ⟨es, ep, t, R⟩ := setM0_full R0 fun p hp => isM_at I (hk p hp)
  rw [Vals.ref1 r]
  refine sortSetM R (I.ok.hd hc) hal hne hdp fun s' p out c L' k g o hp hg hout pm => ?_
  have hlL : L'.length < 77 := by
    obtain ⟨L0, p0, e⟩ := pm
    rw [e, List.length_mergeSort, p0.length_eq]
    exact R.few
  have hlen : (L'.map fun q => V.ref q.1).length ≤ sizeLine := by rw [List.length_map, sizeLine_eq]; omega
  have hn : H p = none := I.hok.fresh hp
  have hv : Vals (L'.map fun q => V.ref q.1) out.toList := by rw [hout]; exact rowRefs_to L'
  have J : Inv X pins σ (upd H p (.lst (L'.map fun q => V.ref q.1))) { s with heap := s'.heap, gens := s'.gens, drawn := s'.drawn, toks := s'.toks } :=
    I.call (ch := []) (Un.laid k hp hn) (I.hok.laid k hp ⟨hlen, out.toList, c, hv, hg⟩) (by rw [g]; exact I.bare) (fun _ z => nomatch z)
  have e : s' = { s with heap := s'.heap, gens := s'.gens, drawn := s'.drawn, toks := s'.toks } := by
    cases s'
    cases s
    cases o
    rfl
  rw [e]
  exact ⟨.ref p, _, J, rfl, q L' p pm hlL hn⟩
end
end BwS


set_option Elab.async false
set_option linter.all false
set_option maxRecDepth 100000
set_option maxHeartbeats 4000000
namespace BW
open PySem PySem.Spec PyProof.Rows L2
/-! ### what stands behind the top -/
def ExcF (K : PySem.W.Frag) (mg : Str → Option Value) (x : Str) : Prop := ∃ C, mg x = some (.ref C) ∧ C = He.ga K x ∧ PySem.W.excIn K C He.veBase "ValueError.__new__" = true ∧ PySem.W.keepIn K (.ref C) = true ∧ PySem.W.subIn K (.ref C) (.type "BaseException") = some true ∧ PySem.W.typeIn K (.ref C) = some (.type "type")
def ClsF (K : PySem.W.Frag) (mg : Str → Option Value) (x : Str) : Prop := mg x = some (.ref (He.ga K x)) ∧ Cls K (He.ga K x)
def DefInD (K : PySem.W.Frag) (mg : Str → Option Value) (path name qual : Str) (st : Stmt) (dv : List V) : Prop := ∃ f fd, FunD K name qual (defArgs st) (defBody st) (defScope st) dv [] f fd ∧ mg path = some (.ref f)
abbrev DefIn (K : PySem.W.Frag) (mg : Str → Option Value) (path name qual : Str) (st : Stmt) : Prop := DefInD K mg path name qual st []
def MethInD (K : PySem.W.Frag) (mg : Str → Option Value) (c m qual : Str) (st : Stmt) (dv : List V) : Prop := ∃ f fd, FunD K m qual (defArgs st) (defBody st) (defScope st) dv [] f fd ∧ Meth K (He.ga K c) m f
abbrev MethIn (K : PySem.W.Frag) (mg : Str → Option Value) (c m qual : Str) (st : Stmt) : Prop := MethInD K mg c m qual st []
def InitIn (K : PySem.W.Frag) (mg : Str → Option Value) (c qual : Str) (st : Stmt) : Prop := ∃ f fd, FunD K "__init__" qual (defArgs st) (defBody st) (defScope st) [] [] f fd ∧ Mk K (He.ga K c) f
section
variable {K : PySem.W.Frag} {h : Heap} {mg : Str → Option Value}
theorem excF_of (X : K.In h) (G : h.Ns mainGlobals mg) {x : Str} (c1 : (He.Fa.glo x).ok K = true) (c2 : (He.Fa.exc x).ok K = true) : ExcF K mg x := ⟨_, He.glo_ok X G c1, rfl, He.exc_ok c2⟩
theorem clsF_of (X : K.In h) (G : h.Ns mainGlobals mg) {x : Str} (c1 : (He.Fa.glo x).ok K = true) (c2 : (He.Fa.cls x).ok K = true) : ClsF K mg x := ⟨He.glo_ok X G c1, He.cls_ok c2⟩
theorem defInD_of {d : He.DefD} {path : Str} (X : K.In h) (G : h.Ns mainGlobals mg) (c1 : (He.Fa.glo path).ok K = true) (c : ∃ fd, FunD K d.name d.qual d.params d.body d.scope (d.dvs K) (d.kws K) (He.fAd K d.at_) fd) {name qual : Str} {st : Stmt} {dv : List V}
    (e1 : d.at_ = (path, none) := by rfl) (e2 : d.name = name := by rfl) (e3 : d.qual = qual := by rfl) (e4 : d.params = defArgs st := by rfl) (e5 : d.body = defBody st := by rfl) (e6 : d.scope = defScope st := by rfl) (e7 : d.dvs K = dv := by rfl) (e8 : d.kws K = [] := by rfl) : DefInD K mg path name qual st dv := by
  obtain ⟨fd, F⟩ := c
  rw [e1, e2, e3, e4, e5, e6, e7, e8] at F
  exact ⟨_, fd, F, He.glo_ok X G c1⟩
theorem defIn_of {d : He.DefD} {path : Str} (X : K.In h) (G : h.Ns mainGlobals mg) (c1 : (He.Fa.glo path).ok K = true) (c : ∃ fd, FunD K d.name d.qual d.params d.body d.scope (d.dvs K) (d.kws K) (He.fAd K d.at_) fd) {name qual : Str} {st : Stmt}
    (e1 : d.at_ = (path, none) := by rfl) (e2 : d.name = name := by rfl) (e3 : d.qual = qual := by rfl) (e4 : d.params = defArgs st := by rfl) (e5 : d.body = defBody st := by rfl) (e6 : d.scope = defScope st := by rfl) (e7 : d.dvs K = [] := by rfl) (e8 : d.kws K = [] := by rfl) : DefIn K mg path name qual st :=
  defInD_of X G c1 c e1 e2 e3 e4 e5 e6 e7 e8
theorem methInD_of {d : He.DefD} {c m : Str} (c1 : (He.Fa.meth c m).ok K = true) (cd : ∃ fd, FunD K d.name d.qual d.params d.body d.scope (d.dvs K) (d.kws K) (He.fAd K d.at_) fd) {qual : Str} {st : Stmt} {dv : List V}
    (e1 : d.at_ = (c, some m) := by rfl) (e2 : d.name = m := by rfl) (e3 : d.qual = qual := by rfl) (e4 : d.params = defArgs st := by rfl) (e5 : d.body = defBody st := by rfl) (e6 : d.scope = defScope st := by rfl) (e7 : d.dvs K = dv := by rfl) (e8 : d.kws K = [] := by rfl) : MethInD K mg c m qual st dv := by
  obtain ⟨fd, F⟩ := cd
  rw [e1, e2, e3, e4, e5, e6, e7, e8] at F
  exact ⟨_, fd, F, He.meth_ok c1⟩
theorem methIn_of {d : He.DefD} {c m : Str} (c1 : (He.Fa.meth c m).ok K = true) (cd : ∃ fd, FunD K d.name d.qual d.params d.body d.scope (d.dvs K) (d.kws K) (He.fAd K d.at_) fd) {qual : Str} {st : Stmt}
    (e1 : d.at_ = (c, some m) := by rfl) (e2 : d.name = m := by rfl) (e3 : d.qual = qual := by rfl) (e4 : d.params = defArgs st := by rfl) (e5 : d.body = defBody st := by rfl) (e6 : d.scope = defScope st := by rfl) (e7 : d.dvs K = [] := by rfl) (e8 : d.kws K = [] := by rfl) : MethIn K mg c m qual st :=
  methInD_of c1 cd e1 e2 e3 e4 e5 e6 e7 e8
theorem initIn_of {d : He.DefD} {c : Str} (c1 : (He.Fa.mkr c).ok K = true) (cd : ∃ fd, FunD K d.name d.qual d.params d.body d.scope (d.dvs K) (d.kws K) (He.fAd K d.at_) fd) {qual : Str} {st : Stmt}
    (e1 : d.at_ = (c, some ("__init__" : Str)) := by rfl) (e2 : d.name = ("__init__" : Str) := by rfl) (e3 : d.qual = qual := by rfl) (e4 : d.params = defArgs st := by rfl) (e5 : d.body = defBody st := by rfl) (e6 : d.scope = defScope st := by rfl) (e7 : d.dvs K = [] := by rfl) (e8 : d.kws K = [] := by rfl) : InitIn K mg c qual st := by
  obtain ⟨fd, F⟩ := cd
  rw [e1, e2, e3, e4, e5, e6, e7, e8] at F
  exact ⟨_, fd, F, He.mkr_ok c1⟩
end
/-! ### a def that keeps its promise, as callers take it -/
section
variable (P : Program) (w : World) (K : PySem.W.Frag) (mg : Str → Option Value) (base : Heap)
def Ok (k : Nat) (x : Str) (ps : List Str) (sp : Sp) : Prop := ∃ f fd, FnOk P w K mg base (L2.CX P w) k f fd ps sp ∧ Binds K fd ps [] ∧ PySem.W.keepIn K (.ref f) = true ∧ mg x = some (.ref f)
def OkM (k : Nat) (c m : Str) (ps : List Str) (sp : Sp) : Prop := ∃ f fd, FnOk P w K mg base (L2.CX P w) k f fd ps sp ∧ Binds K fd ps [] ∧ Meth K (He.ga K c) m f
def OkI (k : Nat) (c : Str) (ps : List Str) (sp : Sp) : Prop := ∃ f fd, FnOk P w K mg base (L2.CX P w) k f fd ps sp ∧ Binds K fd ps [] ∧ Mk K (He.ga K c) f
end
section
variable {P : Program} {w : World} {K : PySem.W.Frag} {mg : Str → Option Value} {base : Heap}
/-- the body of a def, at its entry -/
abbrev Body (P : Program) (w : World) (K : PySem.W.Frag) (mg : Str → Option Value) (base : Heap) (N ps : List Str) (qual : Str) (st : Stmt) (k : Nat) (sp : Sp) : Prop :=
  ∀ (f : Addr) (cdv : Value) (A : Around) (outer : List Env) (s : Shared) (H : Hp) (vs : List V) (Q : VK) (E : XK), Room k (A.deeper (envOfC qual (defScope st) s.heap.objs.size f cdv)) → sp vs H Q E →
      ∃ t, PSs (cxOf (L2.CX P w) P w K mg base N qual (defScope st) f cdv A outer s H E) (defBody st) t ∧ t { nx := fun _ H' => Q .non H', rt := Q } (start N vs) H
abbrev BindsEq (ps : List Str) (name qual : Str) (st : Stmt) : Prop := ∀ (kV doc pm : Value) (an : Option Addr) (cdv ct : Value) (us : List Value), us.length = ps.length → bindArgs (PySem.W.fnOf name qual (defArgs st) (defBody st) (defScope st) .none kV doc pm an cdv ct) ⟨us, []⟩ = pure (ps.zip us)
theorem ok_of {path name qual : Str} {st : Stmt} {N ps : List Str} {k : Nat} {sp : Sp} (D : DefIn K mg path name qual st) (S : FnScope N ps (defScope st)) (hb : BindsEq ps name qual st) (len : ∀ vs H Q E, sp vs H Q E → vs.length = ps.length)
    (body : Body P w K mg base N ps qual st k sp) : Ok P w K mg base (k + 1) path ps sp := by
  obtain ⟨f, fd, F, g⟩ := D
  exact ⟨f, fd, F.ok S len (body f), F.bindsN hb, F.kp, g⟩
theorem okM_of {c m qual : Str} {st : Stmt} {N ps : List Str} {k : Nat} {sp : Sp} (D : MethIn K mg c m qual st) (S : FnScope N ps (defScope st)) (hb : BindsEq ps m qual st) (len : ∀ vs H Q E, sp vs H Q E → vs.length = ps.length)
    (body : Body P w K mg base N ps qual st k sp) : OkM P w K mg base (k + 1) c m ps sp := by
  obtain ⟨f, fd, F, g⟩ := D
  exact ⟨f, fd, F.ok S len (body f), F.bindsN hb, g⟩
theorem okI_of {c qual : Str} {st : Stmt} {N ps : List Str} {k : Nat} {sp : Sp} (D : InitIn K mg c qual st) (S : FnScope N ps (defScope st)) (hb : BindsEq ps "__init__" qual st) (len : ∀ vs H Q E, sp vs H Q E → vs.length = ps.length)
    (body : Body P w K mg base N ps qual st k sp) : OkI P w K mg base (k + 1) c ps sp := by
  obtain ⟨f, fd, F, g⟩ := D
  exact ⟨f, fd, F.ok S len (body f), F.bindsN hb, g⟩
theorem Ok.imp {k : Nat} {x : Str} {ps : List Str} {sp sp' : Sp} (O : Ok P w K mg base k x ps sp) (h : ∀ vs H Q E, sp' vs H Q E → sp vs H Q E) : Ok P w K mg base k x ps sp' := by
  obtain ⟨f, fd, F, b, kp, g⟩ := O
  exact ⟨f, fd, F.imp h, b, kp, g⟩
theorem OkM.imp {k : Nat} {c m : Str} {ps : List Str} {sp sp' : Sp} (O : OkM P w K mg base k c m ps sp) (h : ∀ vs H Q E, sp' vs H Q E → sp vs H Q E) : OkM P w K mg base k c m ps sp' := by
  obtain ⟨f, fd, F, b, g⟩ := O
  exact ⟨f, fd, F.imp h, b, g⟩
end
/-! ### calls -/
section
variable {X : Cx} {k j : Nat} {ps : List Str} {sp : Sp} {E : XK} {x c m : Str} {p pos apos : Pos} {e o : Expr} {es : List Expr} {ta : TE} {t : TA}
abbrev XP (X : Cx) (E : XK) : Prop := Passes (L2.CX X.prog X.w) X E
theorem pe_ok (O : Ok X.prog X.w X.K X.mg X.base k x ps sp) (hr : Room k X.A) (hx : XP X E) (ha : PA X (e :: es) t) (hg : Gl X x := by rfl) (hdb : (x == ("__debug__" : Str)) = false := by decide)
    (he : starEach (e :: es) X.env = (false, eval e X.env) :: starEach es X.env := by rfl) (hpl : (backTo pos (starEach es X.env)).any (·.1) = false := by rfl) : PE X (.Call (.Name x p) (e :: es) [] pos) (tCall sp [] E t) := by
  obtain ⟨f, fd, F, b, kp, g⟩ := O
  exact pe_call F hr hg g kp b .nil hx ha hdb he hpl
theorem pe_okM {pl : Sem Bool} (he : PE X o ta) (cl : ClsF X.K X.mg c) (O : OkM X.prog X.w X.K X.mg X.base k c m ps sp) (hr : Room k X.A) (hx : XP X E) (ha : PA X (e :: es) t)
    (hst : starEach (e :: es) X.env = (false, eval e X.env) :: starEach es X.env := by rfl) (hpl : (backTo pos (starEach es X.env)).any (·.1) = false := by rfl)
    (ht : eval (.Call (.Attribute o m apos) (e :: es) [] pos) X.env = (do
      let ov ← eval o X.env
      standAt apos.atName
      let (f, first) ← holding [ov] (getMethod ov m pl)
      callWith pos f first (backTo pos (starEach (e :: es) X.env)) (backToKw pos (keywordEach [] X.env))) := by rfl) :
    PE X (.Call (.Attribute o m apos) (e :: es) [] pos) (tMeth (He.ga X.K c) m sp [] E ta t) := by
  obtain ⟨f, fd, F, b, M⟩ := O
  exact pe_meth he cl.2 M F hr b .nil hx ha hst hpl ht
theorem pe_okM0 {pl : Sem Bool} (he : PE X o ta) (cl : ClsF X.K X.mg c) (O : OkM X.prog X.w X.K X.mg X.base k c m ps sp) (hr : Room k X.A) (hx : XP X E)
    (ht : eval (.Call (.Attribute o m apos) [] [] pos) X.env = (do
      let ov ← eval o X.env
      standAt apos.atName
      let (f, first) ← holding [ov] (getMethod ov m pl)
      callWith pos f first (backTo pos (starEach [] X.env)) (backToKw pos (keywordEach [] X.env))) := by rfl) :
    PE X (.Call (.Attribute o m apos) [] [] pos) (tMeth (He.ga X.K c) m sp [] E ta tNil) := by
  obtain ⟨f, fd, F, b, M⟩ := O
  exact pe_meth0 he cl.2 M F hr b .nil hx ht
theorem pe_okI (O : OkI X.prog X.w X.K X.mg X.base k x ps sp) (cl : ClsF X.K X.mg x) (hr : Room (k + 1) X.A) (hx : XP X E) (ha : PA X (e :: es) t) (hg : Gl X x := by rfl) (hdb : (x == ("__debug__" : Str)) = false := by decide)
    (he : starEach (e :: es) X.env = (false, eval e X.env) :: starEach es X.env := by rfl) (hpl : (backTo pos (starEach es X.env)).any (·.1) = false := by rfl) : PE X (.Call (.Name x p) (e :: es) [] pos) (tMake (He.ga X.K x) sp [] E t) := by
  obtain ⟨f, fd, F, b, M⟩ := O
  exact pe_make M F hr hg cl.1 b .nil hx ha hdb he hpl
theorem pe_okI0 (O : OkI X.prog X.w X.K X.mg X.base k x ps sp) (cl : ClsF X.K X.mg x) (hr : Room (k + 1) X.A) (hx : XP X E) (hg : Gl X x := by rfl) (hdb : (x == ("__debug__" : Str)) = false := by decide) : PE X (.Call (.Name x p) [] [] pos) (tMake (He.ga X.K x) sp [] E tNil) := by
  obtain ⟨f, fd, F, b, M⟩ := O
  exact pe_make0 M F hr hg cl.1 b .nil hx hdb
/-- raise X('..'), X an own class -/
theorem ps_rs {WW : WX} {msg : Str} {jj : Nat} {p1 p2 p3 p4 : Pos} (hc : X.calm = true) (ex : ExcF X.K X.mg x) (tk : Takes X WW) (hg : Gl X x := by rfl) (hdb : (x == ("__debug__" : Str)) = false := by decide) :
    PS X (.Raise (some (.Call (.Name x p1) [.Constant (.str msg) jj p2] [] p3)) none p4) (fun _ σ H => WW (.ref (He.ga X.K x)) none σ H) := by
  obtain ⟨C, g, eC, x1, x2, x3, x4⟩ := ex
  subst eC
  exact ps_raise hc tk (pmk_own PySem.F.excBase_ValueError x1 g x2 (raises_own x3 x4) hg hdb)
end
/-- a module's constant -/
theorem pe_gs {X : Cx} {x z : Str} {pos : Pos} (hm : ∃ t, X.mg x = some (.str z t)) (hg : Gl X x := by rfl) (hd : (x == ("__debug__" : Str)) = false := by decide) : PE X (.Name x pos) (tC (.str z)) := by
  obtain ⟨t, e⟩ := hm
  exact pe_glob hg e ⟨t, rfl⟩ hd
theorem pe_gi {X : Cx} {x : Str} {z : Int} {pos : Pos} (hm : ∃ t, X.mg x = some (.int z t)) (hg : Gl X x := by rfl) (hd : (x == ("__debug__" : Str)) = false := by decide) : PE X (.Name x pos) (tC (.int z)) := by
  obtain ⟨t, e⟩ := hm
  exact pe_glob hg e ⟨t, rfl⟩ hd
/-! ### letters and texts -/
abbrev L := Fin 12
def cp (x : L) : Nat := if x.val % 2 = 0 then 97 + x.val / 2 else 65 + x.val / 2
def bk (x : L) : L := ⟨if x.val % 2 = 0 then x.val + 1 else x.val - 1, by split <;> omega⟩
theorem bk_bk (x : L) : bk (bk x) = x := by revert x; decide
theorem bk_ne (x : L) : bk x ≠ x := by revert x; decide
theorem cp_inj {x y : L} (h : cp x = cp y) : x = y := by revert x y; decide
def oS : Str := ⟨#[97, 65, 98, 66, 99, 67, 100, 68, 101, 69, 102, 70]⟩
/-- a text by its codes; a letter; a word -/
abbrev tS (l : List Nat) : Str := ⟨l.toArray⟩
abbrev lS (x : L) : Str := ⟨#[cp x]⟩
abbrev wS (u : List L) : Str := ⟨(u.map cp).toArray⟩
theorem tS_len (l : List Nat) : (tS l).length = l.length := by simp [Str.length]
theorem wS_len (u : List L) : (wS u).length = u.length := by simp [Str.length]
theorem big_of {n : Nat} (h : n ≤ 16000000) : n ≤ sizeLine := by rw [sizeLine_eq]; omega
theorem big_lt {n : Nat} (h : n < 16000000) : n < sizeLine := by rw [sizeLine_eq]; omega
end BW


set_option Elab.async false
set_option linter.all false
set_option maxRecDepth 100000
set_option maxHeartbeats 4000000
namespace BW
open PySem PySem.Spec PyProof.Rows L2
/-- what stood stands -/
def Ext (H H' : Hp) : Prop := ∀ p o, H p = some o → H' p = some o
theorem Ext.rfl' {H : Hp} : Ext H H := fun _ _ h => h
theorem Ext.trans {H H' H2 : Hp} (a : Ext H H') (b : Ext H' H2) : Ext H H2 := fun p o h => b p o (a p o h)
theorem Ext.new {H : Hp} {p : Addr} {o} (h : H p = none) : Ext H (upd H p o) := fun q o' e => by
  by_cases hq : q = p
  · subst hq
    rw [h] at e
    cases e
  · rw [upd_ne hq]
    exact e
theorem Ext.put {H0 H : Hp} {p : Addr} {o} (h : H0 p = none) (a : Ext H0 H) : Ext H0 (upd H p o) := fun q o' e => by
  by_cases hq : q = p
  · subst hq
    rw [h] at e
    cases e
  · rw [upd_ne hq]
    exact a q o' e
section
variable {J : It} {n : Nat} {G : Hp → Prop} {Y : Nat → Hp → V → Hp → Prop}
/-- a comprehension whose i-th item comes to rs[i] -/
theorem lc_all (w : Walk J n G Y) {g : TG} {te : TE} {vs : List Nat} {σ : L2.St} {H1 : Hp} {D : Addr} {Qd : Hp → Prop} (rs : List V) (hn : rs.length = n) (hD : H1 D = none) (hz : n ≤ sizeLine) (hG : ∀ H, Ext H1 H → G H)
    (hs : ∀ i r x H H' (Q : VK), rs[i]? = some r → Ext H1 H → Y i H x H' → (∀ H4, Ext H H4 → Q r H4) → g x (wipe σ vs) H' fun σ2 H2 => wipe σ2 vs = wipe σ vs ∧ te σ2 H2 Q)
    (hd : ∀ H, Ext H1 H → H D = some (.lst rs) → Qd H) :
    ∃ W : Nat → Nat → Hp → Prop, (∃ m, W 0 m (upd H1 D (.lst []))) ∧ ∀ i m H, W i m H →
      (J.stop i H ∧ Qd H) ∨ (J.go i H ∧ ∃ Nx : Hp → Prop, (∀ H', Nx H' → ∃ m', m' < m ∧ W (i + 1) m' H') ∧ ∀ x H', J.yld i H x H' → g x (wipe σ vs) H' fun σ2 H2 => wipe σ2 vs = wipe σ vs ∧ tYes σ2 H2 fun b H3 =>
        if b = true then te σ2 H3 fun y H4 => ∃ acc, H4 D = some (.lst acc) ∧ acc.length < sizeLine ∧ Nx (upd H4 D (.lst (acc ++ [y]))) else Nx H3) := by
  refine lc_it w (fun i H => Ext H1 H ∧ H D = some (.lst (rs.take i))) ⟨Ext.new hD, by rw [upd_same]; simp⟩ (fun i H _ p => hG H p.1) (fun i x H H' hi p y => ?_) (fun H p => hd H p.1 (by rw [p.2]; simp [← hn]))
  have hlt : i < rs.length := by omega
  have e : rs[i]? = some rs[i] := by simp [hlt]
  have := hs i rs[i] x H H' (fun y H4 => ∃ acc, H4 D = some (.lst acc) ∧ acc.length < sizeLine ∧ (Ext H1 (upd H4 D (.lst (acc ++ [y]))) ∧ upd H4 D (.lst (acc ++ [y])) D = some (.lst (rs.take (i + 1))))) e p.1 y fun H4 x4 => by
    refine ⟨rs.take i, x4 _ _ p.2, by simp; omega, Ext.put hD (p.1.trans x4), ?_⟩
    rw [upd_same, List.take_succ, e]
    rfl
  exact this
/-- a comprehension with tests: f i is what turn i adds -/
theorem lc_flt (w : Walk J n G Y) {g : TG} {tt : TT} {te : TE} {vs : List Nat} {σ : L2.St} {H1 : Hp} {D : Addr} {Qd : Hp → Prop} (f : Nat → Option V) (hD : H1 D = none) (hz : n ≤ sizeLine) (hG : ∀ H, Ext H1 H → G H)
    (hs : ∀ i x H H' (Q : VK) (N : Hp → Prop), i < n → Ext H1 H → Y i H x H' → (∀ r H4, f i = some r → Ext H H4 → Q r H4) → (∀ H4, f i = none → Ext H H4 → N H4) →
      g x (wipe σ vs) H' fun σ2 H2 => wipe σ2 vs = wipe σ vs ∧ tt σ2 H2 fun b H3 => if b = true then te σ2 H3 Q else N H3)
    (hd : ∀ H, Ext H1 H → H D = some (.lst ((List.range n).filterMap f)) → Qd H) :
    ∃ W : Nat → Nat → Hp → Prop, (∃ m, W 0 m (upd H1 D (.lst []))) ∧ ∀ i m H, W i m H →
      (J.stop i H ∧ Qd H) ∨ (J.go i H ∧ ∃ Nx : Hp → Prop, (∀ H', Nx H' → ∃ m', m' < m ∧ W (i + 1) m' H') ∧ ∀ x H', J.yld i H x H' → g x (wipe σ vs) H' fun σ2 H2 => wipe σ2 vs = wipe σ vs ∧ tt σ2 H2 fun b H3 =>
        if b = true then te σ2 H3 fun y H4 => ∃ acc, H4 D = some (.lst acc) ∧ acc.length < sizeLine ∧ Nx (upd H4 D (.lst (acc ++ [y]))) else Nx H3) := by
  refine lc_it w (fun i H => Ext H1 H ∧ H D = some (.lst ((List.range i).filterMap f))) ⟨Ext.new hD, by rw [upd_same]; simp⟩ (fun i H _ p => hG H p.1) (fun i x H H' hi p y => ?_) (fun H p => hd H p.1 p.2)
  refine hs i x H H' (fun y H4 => ∃ acc, H4 D = some (.lst acc) ∧ acc.length < sizeLine ∧ (Ext H1 (upd H4 D (.lst (acc ++ [y]))) ∧ upd H4 D (.lst (acc ++ [y])) D = some (.lst ((List.range (i + 1)).filterMap f)))) (fun H4 => Ext H1 H4 ∧ H4 D = some (.lst ((List.range (i + 1)).filterMap f))) hi p.1 y (fun r H4 e x4 => ?_) (fun H4 e x4 => ?_)
  · refine ⟨_, x4 _ _ p.2, ?_, Ext.put hD (p.1.trans x4), ?_⟩
    · have := List.length_filterMap_le f (List.range i)
      simp only [List.length_range] at this
      omega
    · rw [upd_same, List.range_succ, List.filterMap_append]
      simp [e]
  · refine ⟨p.1.trans x4, ?_⟩
    rw [x4 _ _ p.2, List.range_succ, List.filterMap_append]
    simp [e]
end
theorem dp_map {α : Type} {K : PySem.W.Frag} {H : Hp} {f : α → V} {g : α → PyData} : ∀ {xs : List α}, (∀ x ∈ xs, Dp K H (f x) (g x)) → DpAll K H (xs.map f) (xs.map g)
  | [], _ => .nil
  | _ :: _, h => .cons (h _ List.mem_cons_self) (dp_map fun x hx => h x (List.mem_cons_of_mem _ hx))
theorem layAll {ds : List PyData} (h : ∀ d ∈ ds, d.canLay0 = true) : PyData.canLayAll0 ds = true := by
  induction ds with
  | nil => rfl
  | cons d ds ih =>
    show (d.canLay0 && PyData.canLayAll0 ds) = true
    rw [h d List.mem_cons_self, ih fun d hd => h d (List.mem_cons_of_mem _ hd)]
    rfl
theorem depAll {k : Nat} {ds : List PyData} (h : ∀ d ∈ ds, d.depth ≤ k) : PyData.depthAll ds ≤ k := by
  induction ds with
  | nil => exact Nat.zero_le _
  | cons d ds ih =>
    show max d.depth (PyData.depthAll ds) ≤ k
    have h1 := h d List.mem_cons_self
    have h2 := ih fun d hd => h d (List.mem_cons_of_mem _ hd)
    omega
theorem shaped_list {ds : List PyData} (h : ∀ d ∈ ds, d.canLay0 = true ∧ d.depth ≤ 60) : SeqAt.shaped (.list ds) = true := by
  show (PyData.canLayAll0 ds && decide (PyData.depthAll ds + 1 ≤ 64)) = true
  rw [layAll fun d hd => (h d hd).1]
  have := depAll fun d hd => (h d hd).2
  simp
  omega
theorem shaped_tup {ds : List PyData} (h : ∀ d ∈ ds, d.canLay0 = true ∧ d.depth ≤ 60) : SeqAt.shaped (.tuple ds) = true := shaped_list h
theorem eqv_nil (ds : List PyData) : PyData.eqv (.list ds) (.list []) = ds.isEmpty := by cases ds <;> rfl
theorem joinL_nil : ∀ ys : List (List Nat), TL.joinL [] ys = ys.flatten
  | [] => rfl
  | [p] => by simp [TL.joinL]
  | p :: q :: r => by
    show p ++ ([] ++ TL.joinL [] (q :: r)) = _
    rw [joinL_nil (q :: r)]
    simp
theorem join_e (ys : List (List Nat)) : Txt.join (tS []) (ys.map tS) = tS ys.flatten := by
  rw [← joinL_nil]
  exact SX.join_S [] ys
theorem lens_e (ys : List (List Nat)) : ((ys.map tS).map (·.length)).sum + (ys.map tS).length * (tS []).length = ys.flatten.length := by
  have e : (tS []).length = 0 := rfl
  rw [SX.lens, e, Nat.mul_zero, Nat.add_zero, List.length_flatten]
theorem cp_lt (x : L) : cp x < 1114112 := by revert x; decide
theorem lay_l (x : L) : (PyData.str (lS x)).canLay0 = true := by revert x; decide +kernel
theorem lay_w (u : List L) : (PyData.str (wS u)).canLay0 = true := by
  show PyData.strOk (wS u) = true
  unfold PyData.strOk
  rw [← Array.all_toList, List.all_eq_true]
  intro c hc
  obtain ⟨x, _, rfl⟩ := List.mem_map.mp (by simpa using hc)
  exact decide_eq_true (cp_lt x)
end BW


set_option Elab.async false
set_option linter.all false
set_option maxRecDepth 100000
set_option maxHeartbeats 4000000
namespace BW
open PySem PySem.Spec PyProof.Rows L2
/-! ### dicts as lists -/
section
variable {α β : Type} [DecidableEq α]
def getA (xs : List (α × β)) (k : α) : Option β := (xs.find? fun e => decide (e.1 = k)).map (·.2)
def putA (xs : List (α × β)) (k : α) (v : β) : List (α × β) := if (xs.any fun e => decide (e.1 = k)) = true then xs.map (fun e => if e.1 = k then (e.1, v) else e) else xs ++ [(k, v)]
def dropA (xs : List (α × β)) (k : α) : List (α × β) := xs.filter fun e => decide (e.1 ≠ k)
variable {κ : Type} [DecidableEq κ]
def encD (f : α → κ) (g : β → V) (xs : List (α × β)) : List (κ × V) := xs.map fun e => (f e.1, g e.2)
theorem encD_len (f : α → κ) (g : β → V) (xs : List (α × β)) : (encD f g xs).length = xs.length := List.length_map _
theorem getA_nil (k : α) : getA ([] : List (α × β)) k = none := rfl
theorem getA_cons (e : α × β) (xs : List (α × β)) (k : α) : getA (e :: xs) k = if e.1 = k then some e.2 else getA xs k := by
  unfold getA
  by_cases h : e.1 = k <;> simp [List.find?_cons, h]
theorem val_enc {f : α → κ} {g : β → V} (hf : ∀ a b, f a = f b → a = b) (k : α) : ∀ xs : List (α × β), valV (encD f g xs) (f k) = (getA xs k).map g
  | [] => rfl
  | e :: xs => by
    rw [getA_cons]
    by_cases h : e.1 = k
    · rw [if_pos h]
      exact valV_pos (by rw [← h])
    · rw [if_neg h, ← val_enc hf k xs]
      exact valV_neg fun q => h (hf _ _ q)
theorem any_enc {f : α → κ} {g : β → V} (hf : ∀ a b, f a = f b → a = b) (k : α) (xs : List (α × β)) : ((encD f g xs).any fun kv => decide (kv.1 = f k)) = xs.any fun e => decide (e.1 = k) := by
  unfold encD
  rw [List.any_map]
  congr 1
  funext e
  show decide (f e.1 = f k) = decide (e.1 = k)
  by_cases h : e.1 = k
  · rw [h, decide_eq_true rfl, decide_eq_true rfl]
  · rw [decide_eq_false h, decide_eq_false fun q => h (hf _ _ q)]
theorem put_enc {f : α → κ} {g : β → V} (hf : ∀ a b, f a = f b → a = b) (k : α) (v : β) (xs : List (α × β)) : putK (encD f g xs) (f k) (g v) = encD f g (putA xs k v) := by
  unfold putK putA
  rw [any_enc hf]
  split
  · unfold encD
    rw [List.map_map, List.map_map]
    congr 1
    funext e
    show (if f e.1 = f k then (f e.1, g v) else (f e.1, g e.2)) = _
    by_cases h : e.1 = k
    · simp [h]
    · have h2 : ¬ f e.1 = f k := fun q => h (hf _ _ q)
      simp [h, h2]
  · simp [encD]
theorem drop_enc {f : α → κ} {g : β → V} (hf : ∀ a b, f a = f b → a = b) (k : α) (xs : List (α × β)) : dropK (encD f g xs) (f k) = encD f g (dropA xs k) := by
  unfold dropK dropA encD
  rw [List.filter_map]
  congr 1
  congr 1
  funext e
  show decide (f e.1 ≠ f k) = decide (e.1 ≠ k)
  by_cases h : e.1 = k
  · rw [h, decide_eq_false (fun q => q rfl), decide_eq_false (fun q => q rfl)]
  · have h2 : f e.1 ≠ f k := fun q => h (hf _ _ q)
    rw [decide_eq_true h, decide_eq_true h2]
theorem any_getA (k : α) : ∀ xs : List (α × β), (xs.any fun e => decide (e.1 = k)) = (getA xs k).isSome
  | [] => rfl
  | e :: xs => by
    rw [getA_cons, List.any_cons, any_getA k xs]
    by_cases h : e.1 = k <;> simp [h]
theorem putA_none {xs : List (α × β)} {k : α} {v : β} (h : getA xs k = none) : putA xs k v = xs ++ [(k, v)] := by
  unfold putA
  rw [any_getA, h]
  simp
theorem putA_len (xs : List (α × β)) (k : α) (v : β) : (putA xs k v).length ≤ xs.length + 1 := by
  unfold putA
  split <;> simp
end
/-! ### keys -/
abbrev kN (n : Nat) : Key := Sum.inl (n : Int)
abbrev kL (x : L) : Key := Sum.inr (lS x)
abbrev kP (p : Nat × L) : List Key := [kN p.1, kL p.2]
theorem lS_inj {x y : L} (h : lS x = lS y) : x = y := cp_inj (by injection h with h; simpa using h)
theorem kN_inj (a b : Nat) (h : kN a = kN b) : a = b := by
  injection h with h
  omega
theorem kL_inj (a b : L) (h : kL a = kL b) : a = b := by
  injection h with h
  exact lS_inj h
theorem kP_inj (a b : Nat × L) (h : kP a = kP b) : a = b := by
  obtain ⟨a1, a2⟩ := a
  obtain ⟨b1, b2⟩ := b
  injection h with h1 h2
  injection h2 with h2 _
  have e1 := kN_inj a1 b1 h1
  have e2 := kL_inj a2 b2 h2
  rw [e1, e2]
abbrev vN (n : Nat) : V := .int (n : Int)
/-! ### roads -/
abbrev Ro := Nat × L × Nat
abbrev St := List ((Nat × L) × Nat)
def rV (r : Ro) : List V := [vN r.1, .str (lS r.2.1), vN r.2.2]
def rK (r : Ro) : List Key := [kN r.1, kL r.2.1, kN r.2.2]
abbrev kvT (st : St) : List (List Key × V) := encD kP vN st
/-- the list at a holds these roads -/
def TupsAt (H : Hp) (ts : List Addr) (rs : List Ro) : Prop := ts.length = rs.length ∧ ∀ (i : Nat) (t : Addr) (r : Ro), ts[i]? = some t → rs[i]? = some r → H t = some (.tup (rV r))
abbrev rfs (ts : List Addr) : List V := ts.map V.ref
def RoadsAt (H : Hp) (a : Addr) (rs : List Ro) : Prop := ∃ ts : List Addr, H a = some (.lst (rfs ts)) ∧ TupsAt H ts rs
theorem TupsAt.ext {H H' : Hp} {ts : List Addr} {rs : List Ro} (h : TupsAt H ts rs) (x : Ext H H') : TupsAt H' ts rs := ⟨h.1, fun i t r a b => x _ _ (h.2 i t r a b)⟩
theorem RoadsAt.ext {H H' : Hp} {a : Addr} {rs : List Ro} (h : RoadsAt H a rs) (x : Ext H H') : RoadsAt H' a rs := by
  obtain ⟨ts, h1, h2⟩ := h
  exact ⟨ts, x _ _ h1, h2.ext x⟩
def sd (st : St) (k : Nat × L) (v : Nat) : Option St := match getA st k with
  | some w => if w = v then some st else none
  | none => some (st ++ [(k, v)])
def stS (st : St) (r : Ro) : Option St := (sd st (r.1, r.2.1) r.2.2).bind fun st => sd st (r.2.2, bk r.2.1) r.1
def stepsF : St → List Ro → Option St
  | st, [] => some st
  | st, r :: rs => (stS st r).bind fun st => stepsF st rs
def stepsOf (rs : List Ro) : Option St := stepsF [] rs
theorem sd_len {st st' : St} {k : Nat × L} {v : Nat} (h : sd st k v = some st') : st'.length ≤ st.length + 1 := by
  unfold sd at h
  split at h
  · split at h
    · cases h; omega
    · cases h
  · cases h; simp
end BW


set_option Elab.async false
set_option linter.all false
set_option maxRecDepth 100000
set_option maxHeartbeats 4000000
namespace BW
open PySem PySem.Spec PyProof.Rows L2
/-! a name that holds a list or a tuple, walked -/
def SqAt (H : Hp) (a : Addr) (xs : List V) : Prop := H a = some (.lst xs) ∨ H a = some (.tup xs)
theorem SqAt.ext {H H' : Hp} {a : Addr} {xs : List V} (h : SqAt H a xs) (x : Ext H H') : SqAt H' a xs := h.imp (fun h => x _ _ h) fun h => x _ _ h
def SeqJ (K : PySem.W.Frag) (H : Hp) (a : Addr) (J : It) : Prop := ((∃ xs, SqL K H a xs) ∧ J = Itl K a) ∨ ((∃ xs, SqT K H a xs) ∧ J = Itt K a)
def iSq (K : PySem.W.Frag) (te : TE) : TI := fun σ H R => te σ H fun x H1 => ∃ a J, x = .ref a ∧ SeqJ K H1 a J ∧ R J H1
theorem pi_sq {X : Cx} {tg : Expr} {x : Str} {pos : Pos} {i : Nat} (he : PE X (.Name x pos) (tVar i)) : PI X tg (.Name x pos) (iSq X.K (tVar i)) := by
  refine ⟨fun pins s σ H R I h => ?_⟩
  obtain ⟨v, hv, a, J, rfl, ⟨hs, rfl⟩ | ⟨hs, rfl⟩, r⟩ := h
  · exact (pi_list he).run pins s σ H R I ⟨_, hv, a, rfl, hs, r⟩
  · exact (pi_tup he).run pins s σ H R I ⟨_, hv, a, rfl, hs, r⟩
theorem sq_walk (K : PySem.W.Frag) {H : Hp} {a : Addr} {xs : List V} (h : SqAt H a xs) : ∃ (J : It) (G : Hp → Prop), (∀ H', Ext H H' → SeqJ K H' a J) ∧ Walk J xs.length G (YAt xs) ∧ ∀ H', Ext H H' → G H' := by
  rcases h with h | h
  · exact ⟨_, _, fun H' x => .inl ⟨⟨_, SqL.of (x _ _ h)⟩, rfl⟩, walk_list, fun H' x => SqL.of (x _ _ h)⟩
  · exact ⟨_, _, fun H' x => .inr ⟨⟨_, SqT.of (x _ _ h)⟩, rfl⟩, walk_tup, fun H' x => SqT.of (x _ _ h)⟩
theorem rfs_at {ts : List Addr} {i : Nat} {v : V} (h : (rfs ts)[i]? = some v) : ∃ t, ts[i]? = some t ∧ v = .ref t := by
  rw [List.getElem?_map] at h
  obtain ⟨t, h1, h2⟩ := Option.map_eq_some_iff.mp h
  exact ⟨t, h1, h2.symm⟩
theorem TupsAt.at {H : Hp} {ts : List Addr} {rs : List Ro} (h : TupsAt H ts rs) {i : Nat} {t : Addr} (e : ts[i]? = some t) : ∃ r, rs[i]? = some r ∧ H t = some (.tup (rV r)) := by
  have hi : i < rs.length := by
    rw [← h.1]
    exact (List.getElem?_eq_some_iff.mp e).1
  have e2 : rs[i]? = some rs[i] := by simp [hi]
  exact ⟨_, e2, h.2 i t _ e e2⟩
theorem drop_at {α : Type} {xs : List α} {i : Nat} {x : α} (h : xs[i]? = some x) : xs.drop i = x :: xs.drop (i + 1) := by
  obtain ⟨hi, rfl⟩ := List.getElem?_eq_some_iff.mp h
  exact List.drop_eq_getElem_cons hi
theorem ne_N (w v : Nat) : (!decide (vN w = vN v)) = !decide (w = v) := by
  congr 1
  rw [Bool.eq_iff_iff]
  simp only [decide_eq_true_eq, V.int.injEq]
  omega
theorem eq_N (w v : Nat) : decide (vN w = vN v) = decide (w = v) := by
  rw [Bool.eq_iff_iff]
  simp only [decide_eq_true_eq, V.int.injEq]
  omega
/-- all that stood stands, but at D -/
def Ext1 (D : Addr) (H H' : Hp) : Prop := ∀ p o, p ≠ D → H p = some o → H' p = some o
theorem Ext1.rfl' {D : Addr} {H : Hp} : Ext1 D H H := fun _ _ _ h => h
theorem Ext.e1 {D : Addr} {H H' : Hp} (x : Ext H H') : Ext1 D H H' := fun p o _ h => x p o h
theorem Ext1.trans {D : Addr} {H H' H2 : Hp} (a : Ext1 D H H') (b : Ext1 D H' H2) : Ext1 D H H2 := fun p o n h => b p o n (a p o n h)
theorem Ext1.put {D : Addr} {H H' : Hp} (a : Ext1 D H H') (o : HO) : Ext1 D H (upd H' D o) := fun p u n h => by
  rw [upd_ne n]
  exact a p u n h
/-- D was new -/
theorem Ext1.ext {D : Addr} {H0 H H' : Hp} (x : Ext H0 H) (a : Ext1 D H H') (n : H0 D = none) : Ext H0 H' := fun p o h => a p o (fun e => by rw [e, n] at h; cases h) (x p o h)
theorem ne_at {H : Hp} {p D : Addr} {o u : HO} (h1 : H p = some o) (h2 : H D = some u) (n : o ≠ u) : p ≠ D := fun e => by
  rw [e, h2] at h1
  exact n (Option.some.inj h1).symm
theorem ne_new {H : Hp} {p D : Addr} {o : HO} (h1 : H p = some o) (h2 : H D = none) : p ≠ D := fun e => by
  rw [e, h2] at h1
  cases h1
theorem sz1 : 1 ≤ sizeLine := big_of (by decide)
theorem sz2 : 2 ≤ sizeLine := big_of (by decide)
theorem sz3 : 3 ≤ sizeLine := big_of (by decide)
theorem Ext.fresh {H H' : Hp} {p : Addr} (x : Ext H H') (h : H' p = none) : H p = none := by
  cases e : H p with
  | none => rfl
  | some o =>
    rw [x _ _ e] at h
    cases h
end BW


set_option Elab.async false
set_option linter.all false
set_option maxRecDepth 100000
set_option maxHeartbeats 4000000
namespace BW
open PySem PySem.Spec PyProof.Rows L2
/-! ### roads, by pairs of an address and a road -/
def PrsAt (H : Hp) (prs : List (Addr × Ro)) : Prop := ∀ p ∈ prs, H p.1 = some (.tup (rV p.2))
abbrev prV (prs : List (Addr × Ro)) : List V := prs.map fun p => V.ref p.1
theorem PrsAt.ext {H H' : Hp} {prs : List (Addr × Ro)} (h : PrsAt H prs) (x : Ext H H') : PrsAt H' prs := fun p hp => x _ _ (h p hp)
theorem PrsAt.tups {H : Hp} {prs : List (Addr × Ro)} (h : PrsAt H prs) : TupsAt H (prs.map (·.1)) (prs.map (·.2)) := by
  refine ⟨by simp, fun i t r a b => ?_⟩
  rw [List.getElem?_map] at a b
  obtain ⟨p, hp, rfl⟩ := Option.map_eq_some_iff.mp a
  rw [hp] at b
  cases b
  exact h p (List.mem_of_getElem? hp)
theorem prV_rfs (prs : List (Addr × Ro)) : prV prs = rfs (prs.map (·.1)) := by
  unfold prV rfs
  rw [List.map_map]
  rfl
theorem prV_at {prs : List (Addr × Ro)} {i : Nat} {v : V} (h : (prV prs)[i]? = some v) : ∃ p, prs[i]? = some p ∧ v = .ref p.1 := by
  rw [List.getElem?_map] at h
  obtain ⟨t, h1, h2⟩ := Option.map_eq_some_iff.mp h
  exact ⟨t, h1, h2.symm⟩
theorem PrsAt.flt {H : Hp} {prs : List (Addr × Ro)} (h : PrsAt H prs) (c : Addr × Ro → Bool) : PrsAt H (prs.filter c) := fun p hp => h p (List.mem_filter.mp hp).1
theorem snd_flt (prs : List (Addr × Ro)) (c : Ro → Bool) : (prs.filter fun p => c p.2).map (·.2) = (prs.map (·.2)).filter c := by
  rw [List.filter_map]
  rfl
theorem range_flt {α β : Type} (g : α → Option β) (xs : List α) : (List.range xs.length).filterMap (fun i => xs[i]?.bind g) = xs.filterMap g := by
  induction xs with
  | nil => rfl
  | cons x xs ih =>
    rw [List.length_cons, List.range_succ_eq_map, List.filterMap_cons, List.filterMap_map]
    have e : (fun i => ((x :: xs)[i]?).bind g) ∘ Nat.succ = fun i => xs[i]?.bind g := rfl
    rw [e, ih]
    show (match g x with | none => _ | some b => _) = _
    rw [List.filterMap_cons]
    rfl
theorem prs_flt (prs : List (Addr × Ro)) (c : Ro → Bool) : (List.range prs.length).filterMap (fun i => prs[i]?.bind fun p => if c p.2 = true then some (V.ref p.1) else none) = prV (prs.filter fun p => c p.2) := by
  refine (range_flt (fun p : Addr × Ro => if c p.2 = true then some (V.ref p.1) else none) prs).trans ?_
  unfold prV
  induction prs with
  | nil => rfl
  | cons p prs ih =>
    rw [List.filterMap_cons, List.filter_cons]
    cases h : c p.2 with
    | true => simp [ih]
    | false => simpa using ih
/-! ### numbers in lists -/
theorem inV_N (q : Nat) (f : List Nat) : inV (vN q) (f.map vN) = decide (q ∈ f) := by
  induction f with
  | nil => rfl
  | cons x f ih =>
    have e : inV (vN q) ((x :: f).map vN) = (eqV (vN x) (vN q) || inV (vN q) (f.map vN)) := rfl
    rw [e, ih]
    have e2 : eqV (vN x) (vN q) = decide (q = x) := by
      show ((x : Int) == (q : Int)) = _
      rw [Bool.eq_iff_iff, beq_iff_eq, decide_eq_true_eq]
      omega
    rw [e2]
    simp [Bool.eq_iff_iff]
theorem cnt_N (q : Nat) (f : List Nat) : (f.map fun n : Nat => (n : Int)).count (q : Int) = f.count q := by
  induction f with
  | nil => rfl
  | cons x f ih =>
    rw [List.map_cons, List.count_cons, List.count_cons, ih]
    congr 1
    by_cases h : x = q
    · simp [h]
    · have : ¬ (x : Int) = (q : Int) := by omega
      simp [h, this]
/-! ### mirrors of webs -/
def held (es : List Nat) (p : Nat) : Bool := decide (p = 0) || decide (1 < es.count p)
def endsOf (rs : List Ro) : List Nat := rs.map (·.1) ++ rs.map (·.2.2)
def keepR (rs : List Ro) (r : Ro) : Bool := held (endsOf rs) r.1 && held (endsOf rs) r.2.2
def trimW : Nat → List Ro → Option (List Ro)
  | 0, _ => none
  | n + 1, rs => if (rs.filter (keepR rs)).length < rs.length then trimW n (rs.filter (keepR rs)) else some (rs.filter (keepR rs))
def stepC (st : St) (p : Nat) (f : List Nat) (x : L) : List Nat := match getA st (p, x) with
  | some q => if q ∈ f then f else f ++ [q]
  | none => f
def allL : List L := List.finRange 12
def comeW : Nat → St → List Nat → Nat → Option (List Nat)
  | 0, _, _, _ => none
  | n + 1, st, f, k => match f[k]? with
    | some p => comeW n st (allL.foldl (stepC st p) f) (k + 1)
    | none => some f
theorem stepC_len (st : St) (p : Nat) (f : List Nat) (x : L) : f.length ≤ (stepC st p f x).length := by
  unfold stepC
  split
  · split <;> simp
  · exact Nat.le_refl _
theorem stepC_at {st : St} {p : Nat} {f : List Nat} {x : L} {k : Nat} (h : f[k]? = some p) : (stepC st p f x)[k]? = some p := by
  unfold stepC
  split
  · split
    · exact h
    · rw [List.getElem?_append_left (List.getElem?_eq_some_iff.mp h).1]
      exact h
  · exact h
theorem foldC_len (st : St) (p : Nat) : ∀ (xs : List L) (f : List Nat), f.length ≤ (xs.foldl (stepC st p) f).length
  | [], f => Nat.le_refl _
  | x :: xs, f => Nat.le_trans (stepC_len st p f x) (foldC_len st p xs _)
theorem comeW_len : ∀ {n : Nat} {st : St} {f : List Nat} {k : Nat} {r : List Nat}, comeW n st f k = some r → f.length ≤ r.length
  | 0, _, _, _, _, h => by cases h
  | n + 1, st, f, k, r, h => by
    unfold comeW at h
    split at h
    · exact Nat.le_trans (foldC_len _ _ _ _) (comeW_len h)
    · cases h
      exact Nat.le_refl _
theorem allL_at {i : Nat} (h : i < 12) : allL[i]? = some ⟨i, h⟩ := by
  unfold allL
  simp [h]
theorem allL_len : allL.length = 12 := by simp [allL]
theorem oS_at {i : Nat} {c : Nat} (h : oS.cps[i]? = some c) : ∃ x : L, allL[i]? = some x ∧ c = cp x := by
  have hi : i < 12 := (Array.getElem?_eq_some_iff.mp h).1
  refine ⟨⟨i, hi⟩, allL_at hi, ?_⟩
  have : ∀ j : Fin 12, oS.cps[j.val]? = some (cp j) := by decide
  have e := this ⟨i, hi⟩
  rw [e] at h
  exact (Option.some.inj h).symm
theorem flat_N (f : List Nat) : (f.map vN).all flatV = true := by
  rw [List.all_eq_true]
  intro v hv
  obtain ⟨n, _, rfl⟩ := List.mem_map.mp hv
  rfl
theorem dget_st {H : Hp} {d t : Addr} {st : St} {k : Nat × L} (h : H d = some (.dT (kvT st))) (ht : H t = some (.tup [vN k.1, .str (lS k.2)])) : DGet H d (.ref t) ((getA st k).map vN) := by
  rw [← val_enc (g := vN) kP_inj k st]
  exact DGet.t h ht
end BW


set_option Elab.async false
set_option linter.all false
set_option maxRecDepth 100000
set_option maxHeartbeats 4000000
namespace BW
open PySem PySem.Spec PyProof.Rows L2 BwS
/-! ### the sorted set of roads -/
def unL (s : Str) : L := (allL.find? fun x => decide (lS x = s)).getD 0
theorem unL_l (x : L) : unL (lS x) = x := by
  have : ∀ x : L, unL (lS x) = x := by decide +kernel
  exact this x
def decR : List Key → Ro
  | [.inl a, .inr s, .inl b] => (a.toNat, unL s, b.toNat)
  | _ => (0, 0, 0)
theorem decR_k (r : Ro) : decR (rK r) = r := by
  obtain ⟨a, x, b⟩ := r
  show ((a : Int).toNat, unL (lS x), (b : Int).toNat) = _
  rw [unL_l, Int.toNat_natCast, Int.toNat_natCast]
def encR (p : Addr × Ro) : MRow := (p.1, rK p.2)
def decP (m : MRow) : Addr × Ro := (m.1, decR m.2)
theorem decP_e (p : Addr × Ro) : decP (encR p) = p := by
  show (p.1, decR (rK p.2)) = p
  rw [decR_k]
def roLe (r s : Ro) : Bool := PySem.W.dataLe false rowD ((0, rK r) : MRow) (0, rK s)
theorem roLe_e (p q : Addr × Ro) : PySem.W.dataLe false rowD (encR p) (encR q) = roLe p.2 q.2 := rfl
def KeptOf (rs kept : List Ro) : Prop := ∃ L0 : List Ro, L0.Nodup ∧ (∀ r, r ∈ L0 ↔ r ∈ rs) ∧ kept = L0.mergeSort roLe
theorem rV_rK (r : Ro) : (rK r).map kV = rV r := rfl
theorem kept_of {prs : List (Addr × Ro)} {L L' : List MRow} (h1 : ∀ p ∈ L, p ∈ prs.map encR) (h2 : ∀ p ∈ prs.map encR, p.2 ∈ L.map (·.2)) (nd : (L.map (·.2)).Nodup)
    (hs : ∃ L0 : List MRow, L0.Perm L ∧ L' = L0.mergeSort (PySem.W.dataLe false rowD)) : ∃ prs' : List (Addr × Ro), L' = prs'.map encR ∧ (∀ p ∈ prs', p ∈ prs) ∧ KeptOf (prs.map (·.2)) (prs'.map (·.2)) := by
  obtain ⟨L0, pm, rfl⟩ := hs
  have hL0 : (L0.map decP).map encR = L0 := by
    rw [List.map_map]
    have : ∀ m ∈ L0, (encR ∘ decP) m = m := fun m hm => by
      obtain ⟨p, _, rfl⟩ := List.mem_map.mp (h1 m (pm.mem_iff.mp hm))
      show encR (decP (encR p)) = encR p
      rw [decP_e]
    rw [List.map_congr_left this]
    simp
  generalize L0.map decP = p0 at hL0
  subst hL0
  refine ⟨p0.mergeSort fun a b => roLe a.2 b.2, ?_, ?_, p0.map (·.2), ?_, ?_, ?_⟩
  · exact (List.map_mergeSort (r := fun a b : Addr × Ro => roLe a.2 b.2) (s := PySem.W.dataLe false rowD) (f := encR) fun a _ b _ => (roLe_e a b).symm).symm
  · intro p hp
    have hp0 : p ∈ p0 := List.mem_mergeSort.mp hp
    obtain ⟨q, hq, e⟩ := List.mem_map.mp (h1 _ (pm.mem_iff.mp (List.mem_map_of_mem hp0)))
    have e2 := congrArg decP e
    rw [decP_e, decP_e] at e2
    rw [← e2]
    exact hq
  · have n2 : ((p0.map encR).map (·.2)).Nodup := (pm.map _).nodup_iff.mpr nd
    rw [List.map_map] at n2
    have e : ((·.2) ∘ encR : Addr × Ro → List Key) = rK ∘ (·.2) := rfl
    rw [e, ← List.map_map] at n2
    exact n2.of_map _ fun a b h e => h (congrArg rK e)
  · intro r
    constructor
    · intro hr
      obtain ⟨p, hp, rfl⟩ := List.mem_map.mp hr
      obtain ⟨q, hq, e⟩ := List.mem_map.mp (h1 _ (pm.mem_iff.mp (List.mem_map_of_mem hp)))
      have e2 := congrArg decP e
      rw [decP_e, decP_e] at e2
      rw [← e2]
      exact List.mem_map_of_mem hq
    · intro hr
      obtain ⟨p, hp, rfl⟩ := List.mem_map.mp hr
      obtain ⟨m, hm, e⟩ := List.mem_map.mp (h2 _ (List.mem_map_of_mem hp))
      obtain ⟨q, hq, rfl⟩ := List.mem_map.mp (pm.mem_iff.mpr hm)
      have e2 : q.2 = p.2 := by
        have := congrArg decR e
        exact (decR_k q.2).symm.trans (this.trans (decR_k p.2))
      rw [← e2]
      exact List.mem_map_of_mem hq
  · exact List.map_mergeSort (r := fun a b : Addr × Ro => roLe a.2 b.2) (s := roLe) (f := (·.2)) fun a _ b _ => rfl
theorem alike_e (p q : Addr × Ro) : PySem.W.alike (rowD (encR p)) (rowD (encR q)) = true := rfl
theorem dep_e (p : Addr × Ro) : (rowD (encR p)).depth = 1 := rfl
end BW


set_option Elab.async false
set_option linter.all false
set_option maxRecDepth 100000
set_option maxHeartbeats 4000000
namespace BW
open PySem PySem.Spec PyProof.Rows L2 BwS
/-- all but lists stand -/
def ExtN (H H' : Hp) : Prop := ∀ p o, (∀ l, o ≠ .lst l) → H p = some o → H' p = some o
theorem Ext.n {H H' : Hp} (x : Ext H H') : ExtN H H' := fun p o _ h => x p o h
theorem ExtN.trans {H H' H2 : Hp} (a : ExtN H H') (b : ExtN H' H2) : ExtN H H2 := fun p o n h => b p o n (a p o n h)
theorem ExtN.put {H : Hp} {D : Addr} {l : List V} (h : H D = some (.lst l)) (o : HO) : ExtN H (upd H D o) := fun p u n e => by
  rw [upd_ne (fun q => by rw [q, h] at e; exact n l (Option.some.inj e).symm)]
  exact e
section
variable {J : It} {n : Nat} {G : Hp → Prop} {Y : Nat → Hp → V → Hp → Prop}
/-- a comprehension whose i-th item keeps R i -/
theorem lc_rel (w : Walk J n G Y) {g : TG} {te : TE} {vs : List Nat} {σ : L2.St} {H1 : Hp} {D : Addr} {Qd : Hp → Prop} (R : Nat → V → Hp → Prop) (hR : ∀ i v H H', R i v H → ExtN H H' → R i v H') (hD : H1 D = none) (hz : n ≤ sizeLine) (hG : ∀ H, Ext H1 H → G H)
    (hs : ∀ i x H H' (Q : VK), i < n → Ext H1 H → Y i H x H' → (∀ r H4, Ext H H4 → R i r H4 → Q r H4) → g x (wipe σ vs) H' fun σ2 H2 => wipe σ2 vs = wipe σ vs ∧ te σ2 H2 Q)
    (hd : ∀ H xs, Ext H1 H → H D = some (.lst xs) → xs.length = n → (∀ (i : Nat) (v : V), xs[i]? = some v → R i v H) → Qd H) :
    ∃ W : Nat → Nat → Hp → Prop, (∃ m, W 0 m (upd H1 D (.lst []))) ∧ ∀ i m H, W i m H →
      (J.stop i H ∧ Qd H) ∨ (J.go i H ∧ ∃ Nx : Hp → Prop, (∀ H', Nx H' → ∃ m', m' < m ∧ W (i + 1) m' H') ∧ ∀ x H', J.yld i H x H' → g x (wipe σ vs) H' fun σ2 H2 => wipe σ2 vs = wipe σ vs ∧ tYes σ2 H2 fun b H3 =>
        if b = true then te σ2 H3 fun y H4 => ∃ acc, H4 D = some (.lst acc) ∧ acc.length < sizeLine ∧ Nx (upd H4 D (.lst (acc ++ [y]))) else Nx H3) := by
  refine lc_it w (fun i H => Ext H1 H ∧ ∃ xs, H D = some (.lst xs) ∧ xs.length = i ∧ ∀ (j : Nat) (v : V), xs[j]? = some v → R j v H) ⟨Ext.new hD, [], upd_same, rfl, fun j v e => by simp at e⟩ (fun i H _ p => hG H p.1) (fun i x H H' hi p y => ?_) (fun H p => ?_)
  · obtain ⟨x1, xs, hx, hl, hr⟩ := p
    refine hs i x H H' (fun y H4 => ∃ acc, H4 D = some (.lst acc) ∧ acc.length < sizeLine ∧ (Ext H1 (upd H4 D (.lst (acc ++ [y]))) ∧ ∃ xs, upd H4 D (.lst (acc ++ [y])) D = some (.lst xs) ∧ xs.length = i + 1 ∧ ∀ (j : Nat) (v : V), xs[j]? = some v → R j v (upd H4 D (.lst (acc ++ [y]))))) hi x1 y fun r H4 x4 r4 => ?_
    have h4 := x4 _ _ hx
    refine ⟨xs, h4, by omega, Ext.put hD (x1.trans x4), xs ++ [r], upd_same, by simp [hl], fun j v e => ?_⟩
    have en : ExtN H4 (upd H4 D (.lst (xs ++ [r]))) := ExtN.put h4 _
    by_cases hj : j < xs.length
    · rw [List.getElem?_append_left hj] at e
      exact hR _ _ _ _ (hR _ _ _ _ (hr j v e) x4.n) en
    · have hjl : j < (xs ++ [r]).length := (List.getElem?_eq_some_iff.mp e).1
      have hji : j = xs.length := by simp at hjl; omega
      subst hji
      rw [List.getElem?_append_right (Nat.le_refl _), Nat.sub_self] at e
      cases e
      rw [hl]
      exact hR _ _ _ _ r4 en
  · obtain ⟨x1, xs, hx, hl, hr⟩ := p
    exact hd H xs x1 hx hl hr
end
/-- new tuples of roads, one for each -/
theorem prs_rel {H : Hp} {rs : List Ro} {xs : List V} (hl : xs.length = rs.length) (h : ∀ (i : Nat) (v : V), xs[i]? = some v → ∃ t r, v = V.ref t ∧ rs[i]? = some r ∧ H t = some (.tup (rV r))) :
    ∃ prs : List (Addr × Ro), xs = prV prs ∧ PrsAt H prs ∧ prs.map (·.2) = rs := by
  induction xs generalizing rs with
  | nil =>
    cases rs with
    | nil => exact ⟨[], rfl, (fun _ hp => nomatch hp), rfl⟩
    | cons _ _ => cases hl
  | cons x xs ih =>
    cases rs with
    | nil => cases hl
    | cons r rs =>
      obtain ⟨prs, e1, e2, e3⟩ := ih (rs := rs) (by simpa using hl) fun i v hv => h (i + 1) v hv
      obtain ⟨t, r', hx, hr, ht⟩ := h 0 x rfl
      cases hr
      refine ⟨(t, r) :: prs, by rw [hx, e1]; rfl, fun p hp => ?_, by rw [List.map_cons, e3]⟩
      rcases List.mem_cons.mp hp with rfl | hp
      · exact ht
      · exact e2 p hp
/-! ### list.index -/
theorem idx_at {f : List Nat} {q : Nat} (h : q ∈ f) : (f.map vN)[f.idxOf q]? = some (vN q) := by
  have hi : f.idxOf q < f.length := List.idxOf_lt_length_iff.mpr h
  rw [List.getElem?_map, List.getElem?_eq_getElem hi, List.getElem_idxOf hi]
  rfl
theorem eqV_N (a b : Nat) : eqV (vN a) (vN b) = decide (a = b) := by
  show ((a : Int) == (b : Int)) = _
  rw [Bool.eq_iff_iff, beq_iff_eq, decide_eq_true_eq]
  omega
theorem idx_before {f : List Nat} {q m : Nat} {z : V} (hm : m < f.idxOf q) (hz : (f.map vN)[m]? = some z) : eqV z (vN q) = false := by
  rw [List.getElem?_map] at hz
  obtain ⟨a, ha, rfl⟩ := Option.map_eq_some_iff.mp hz
  rw [eqV_N]
  refine decide_eq_false fun e => ?_
  subst e
  obtain ⟨hi, e⟩ := List.getElem?_eq_some_iff.mp ha
  have := List.not_of_lt_findIdx (p := (· == a)) hm
  rw [e] at this
  simp at this
theorem ext_ins {H : Hp} {x dx : Addr} {o u : HO} (h1 : H x = none) (h2 : H dx = none) (h3 : dx ≠ x) : Ext H (upd (upd H dx u) x o) := (Ext.new h2).trans (Ext.new (by rw [upd_ne (Ne.symm h3)]; exact h1))
end BW


set_option Elab.async false
set_option linter.all false
set_option maxRecDepth 100000
set_option maxHeartbeats 4000000
namespace BW
open PySem PySem.Spec PyProof.Rows L2 BwS
def ddup : List Ro → List Ro
  | [] => []
  | r :: rs => if r ∈ ddup rs then ddup rs else r :: ddup rs
theorem ddup_mem (r : Ro) : ∀ rs : List Ro, r ∈ ddup rs ↔ r ∈ rs
  | [] => Iff.rfl
  | s :: rs => by
    unfold ddup
    by_cases h : s ∈ ddup rs
    · rw [if_pos h, List.mem_cons, ddup_mem r rs]
      constructor
      · exact .inr
      · rintro (rfl | q)
        · exact (ddup_mem _ rs).mp h
        · exact q
    · rw [if_neg h, List.mem_cons, List.mem_cons, ddup_mem r rs]
theorem ddup_nodup : ∀ rs : List Ro, (ddup rs).Nodup
  | [] => List.nodup_nil
  | s :: rs => by
    unfold ddup
    by_cases h : s ∈ ddup rs
    · rw [if_pos h]
      exact ddup_nodup rs
    · rw [if_neg h]
      exact List.nodup_cons.mpr ⟨h, ddup_nodup rs⟩
theorem perm_of {a b : List Ro} (na : a.Nodup) (nb : b.Nodup) (h : ∀ r, r ∈ a ↔ r ∈ b) : a.Perm b := by
  rw [List.perm_iff_count]
  intro r
  rw [List.Nodup.count na, List.Nodup.count nb]
  by_cases q : r ∈ a
  · rw [if_pos q, if_pos ((h r).mp q)]
  · rw [if_neg q, if_neg fun z => q ((h r).mpr z)]
theorem roLe_tot : PySem.W.TotalLe roLe := by
  have h := PySem.W.sortLe_total (listOrd itemOrd) false fun r : Ro => PySem.W.keyToks (rowD ((0, rK r) : MRow))
  exact h
theorem toks_inj {r s : Ro} (h : PySem.W.keyToks (rowD ((0, rK r) : MRow)) = PySem.W.keyToks (rowD ((0, rK s) : MRow))) : r = s := by
  obtain ⟨a, x, b⟩ := r
  obtain ⟨a', x', b'⟩ := s
  have h2 : ([.inl 1, .inl (a : Int), .inl 1, .inr (lS x).cps.toList, .inl 1, .inl (b : Int), .inl 0] : List (Int ⊕ List Nat)) = [.inl 1, .inl (a' : Int), .inl 1, .inr (lS x').cps.toList, .inl 1, .inl (b' : Int), .inl 0] := h
  simp only [List.cons.injEq, Sum.inl.injEq, Sum.inr.injEq] at h2
  obtain ⟨_, h3, _, h4, _, h5, _⟩ := h2
  have e1 : a = a' := by omega
  have e2 : b = b' := by omega
  have e3 : x = x' := cp_inj (by simpa using h4)
  rw [e1, e2, e3]
theorem roLe_anti {r s : Ro} (h1 : roLe r s = true) (h2 : roLe s r = true) : r = s := by
  have a1 : (!(listOrd itemOrd).blt (PySem.W.keyToks (rowD ((0, rK s) : MRow))) (PySem.W.keyToks (rowD ((0, rK r) : MRow)))) = true := h1
  have a2 : (!(listOrd itemOrd).blt (PySem.W.keyToks (rowD ((0, rK r) : MRow))) (PySem.W.keyToks (rowD ((0, rK s) : MRow)))) = true := h2
  rw [Bool.not_eq_true'] at a1 a2
  exact toks_inj ((listOrd itemOrd).total _ _ a2 a1)
def insR (r : Ro) : List Ro → List Ro
  | [] => [r]
  | s :: t => if roLe r s = true then r :: s :: t else s :: insR r t
def isrt : List Ro → List Ro
  | [] => []
  | r :: rs => insR r (isrt rs)
theorem insR_perm (r : Ro) : ∀ l : List Ro, (insR r l).Perm (r :: l)
  | [] => List.Perm.refl _
  | s :: t => by
    unfold insR
    split
    · exact List.Perm.refl _
    · exact ((insR_perm r t).cons s).trans (List.Perm.swap r s t)
theorem isrt_perm : ∀ l : List Ro, (isrt l).Perm l
  | [] => List.Perm.refl _
  | r :: rs => (insR_perm r (isrt rs)).trans ((isrt_perm rs).cons r)
theorem insR_pw (r : Ro) : ∀ l : List Ro, l.Pairwise (fun a b => roLe a b = true) → (insR r l).Pairwise (fun a b => roLe a b = true)
  | [], _ => List.pairwise_singleton _ _
  | s :: t, h => by
    unfold insR
    obtain ⟨h1, h2⟩ := List.pairwise_cons.mp h
    split
    · rename_i hr
      refine List.pairwise_cons.mpr ⟨fun a ha => ?_, h⟩
      rcases List.mem_cons.mp ha with rfl | ha
      · exact hr
      · exact roLe_tot.trans _ _ _ hr (h1 a ha)
    · rename_i hr
      refine List.pairwise_cons.mpr ⟨fun a ha => ?_, insR_pw r t h2⟩
      rcases List.mem_cons.mp ((insR_perm r t).mem_iff.mp ha) with rfl | ha
      · exact (roLe_tot.total s a).resolve_right hr
      · exact h1 a ha
theorem isrt_pw : ∀ l : List Ro, (isrt l).Pairwise (fun a b => roLe a b = true)
  | [] => List.Pairwise.nil
  | r :: rs => insR_pw r _ (isrt_pw rs)
def srt (rs : List Ro) : List Ro := isrt (ddup rs)
theorem kept_srt {rs kept : List Ro} (h : KeptOf rs kept) : kept = srt rs := by
  obtain ⟨L0, nd, hm, rfl⟩ := h
  have pm : L0.Perm (ddup rs) := perm_of nd (ddup_nodup rs) fun r => (hm r).trans (ddup_mem r rs).symm
  refine List.Perm.eq_of_pairwise (le := fun a b => roLe a b = true) (fun a b _ _ h1 h2 => roLe_anti h1 h2) (PySem.W.sort_pairwise roLe_tot L0) (isrt_pw (ddup rs)) ?_
  exact (List.mergeSort_perm L0 roLe).trans (pm.trans (isrt_perm (ddup rs)).symm)
example : srt [(1, 0, 1), (0, 2, 1), (1, 0, 1), (0, 0, 0)] = [(0, 0, 0), (0, 2, 1), (1, 0, 1)] := by decide +kernel
end BW


set_option Elab.async false
set_option linter.all false
set_option maxRecDepth 100000
set_option maxHeartbeats 4000000
namespace BW
open PySem PySem.Spec PyProof.Rows L2 BwS
/-! ### the tree of a web -/
abbrev Fd := List (Nat × (List L × Nat))
abbrev FdA := List (Nat × (Addr × (List L × Nat)))
def fdV (e : Addr × (List L × Nat)) : V := .ref e.1
abbrev kvF (fa : FdA) : List (Key × V) := encD kN fdV fa
def FdOk (H : Hp) (fa : FdA) : Prop := ∀ e ∈ fa, H e.2.1 = some (.tup [.str (wS e.2.2.1), vN e.2.2.2])
def strip (fa : FdA) : Fd := fa.map fun e => (e.1, e.2.2)
theorem strip_get (q : Nat) : ∀ fa : FdA, getA (strip fa) q = (getA fa q).map (·.2)
  | [] => rfl
  | e :: fa => by
    show getA ((e.1, e.2.2) :: strip fa) q = _
    rw [getA_cons, getA_cons]
    by_cases h : e.1 = q
    · rw [if_pos h, if_pos h]
      rfl
    · rw [if_neg h, if_neg h]
      exact strip_get q fa
theorem getA_mem {α β : Type} [DecidableEq α] {xs : List (α × β)} {k : α} {v : β} (h : getA xs k = some v) : (k, v) ∈ xs := by
  unfold getA at h
  obtain ⟨e, he, rfl⟩ := Option.map_eq_some_iff.mp h
  have h1 := List.mem_of_find?_eq_some he
  have h2 : e.1 = k := of_decide_eq_true (List.find?_some (p := fun e : α × β => decide (e.1 = k)) he)
  rw [← h2]
  exact h1
theorem FdOk.get {H : Hp} {fa : FdA} (h : FdOk H fa) {q : Nat} {u : List L} {p : Nat} (e : getA (strip fa) q = some (u, p)) : ∃ t, getA fa q = some (t, (u, p)) ∧ H t = some (.tup [.str (wS u), vN p]) := by
  rw [strip_get] at e
  obtain ⟨⟨t, up⟩, h1, h2⟩ := Option.map_eq_some_iff.mp e
  have h2 : up = (u, p) := h2
  subst h2
  exact ⟨t, h1, h _ (getA_mem h1)⟩
theorem FdOk.ext {H H' : Hp} {fa : FdA} (h : FdOk H fa) (x : Ext H H') : FdOk H' fa := fun e he => x _ _ (h e he)
def treeC (st : St) (p : Nat) (fd : Fd) (x : L) : Fd := match getA st (p, x) with
  | some q => if (getA fd q).isSome = true then fd else fd ++ [(q, ([x], p))]
  | none => fd
def treeW : Nat → St → Fd → Nat → Option Fd
  | 0, _, _, _ => none
  | n + 1, st, fd, k => match fd[k]? with
    | some e => treeW n st (allL.foldl (treeC st e.1) fd) (k + 1)
    | none => some fd
theorem treeC_len (st : St) (p : Nat) (fd : Fd) (x : L) : fd.length ≤ (treeC st p fd x).length := by
  unfold treeC
  split
  · split <;> simp
  · exact Nat.le_refl _
theorem treeC_at {st : St} {p : Nat} {fd : Fd} {x : L} {k : Nat} {e : Nat × (List L × Nat)} (h : fd[k]? = some e) : (treeC st p fd x)[k]? = some e := by
  unfold treeC
  split
  · split
    · exact h
    · rw [List.getElem?_append_left (List.getElem?_eq_some_iff.mp h).1]
      exact h
  · exact h
theorem foldT_len (st : St) (p : Nat) : ∀ (xs : List L) (fd : Fd), fd.length ≤ (xs.foldl (treeC st p) fd).length
  | [], fd => Nat.le_refl _
  | x :: xs, fd => Nat.le_trans (treeC_len st p fd x) (foldT_len st p xs _)
theorem treeW_len : ∀ {n : Nat} {st : St} {fd : Fd} {k : Nat} {r : Fd}, treeW n st fd k = some r → fd.length ≤ r.length
  | 0, _, _, _, _, h => by cases h
  | n + 1, st, fd, k, r, h => by
    unfold treeW at h
    split at h
    · exact Nat.le_trans (foldT_len _ _ _ _) (treeW_len h)
    · cases h
      exact Nat.le_refl _
def wayW : Nat → Fd → Nat → List L → Option (List L)
  | 0, _, _, _ => none
  | n + 1, fd, p, acc => if p = 0 then some acc else match getA fd p with
    | some (u, q) => wayW n fd q (u ++ acc)
    | none => none
theorem wayW_len : ∀ {n : Nat} {fd : Fd} {p : Nat} {acc r : List L}, wayW n fd p acc = some r → acc.length ≤ r.length
  | 0, _, _, _, _, h => by cases h
  | n + 1, fd, p, acc, r, h => by
    unfold wayW at h
    split at h
    · cases h
      exact Nat.le_refl _
    · split at h
      · have := wayW_len h
        rw [List.length_append] at this
        omega
      · cases h
theorem dget_n {H : Hp} {d : Addr} {kvs : List (Key × V)} {q : Nat} (h : H d = some (.dK kvs)) : DGet H d (vN q) (valV kvs (kN q)) := DGet.k (k := kN q) h
end BW


set_option Elab.async false
set_option linter.all false
set_option maxRecDepth 100000
set_option maxHeartbeats 4000000
namespace BW
open PySem PySem.Spec PyProof.Rows L2 BwS
/-! ### a folding -/
structure FS where
  heads : List Nat
  steps : List (List (L × Nat))
  waiting : List Ro
  deriving DecidableEq
abbrev kvL (xs : List (L × Nat)) : List (Key × V) := encD kL vN xs
def foldF (a b c : Addr) : List (Str × V) := [("heads", .ref a), ("steps", .ref b), ("waiting", .ref c)]
structure FoldA (K : PySem.W.Frag) (H0 H : Hp) (p dx a b c : Addr) (ds : List Addr) (prs : List (Addr × Ro)) (fs : FS) : Prop where
  self : H p = some (.ins (He.ga K "Folding") dx (foldF a b c))
  heads : H a = some (.lst (fs.heads.map vN))
  steps : H b = some (.lst (rfs ds))
  wait : H c = some (.lst (prV prs))
  tups : PrsAt H prs
  same : prs.map (·.2) = fs.waiting
  len : ds.length = fs.steps.length
  nd : ds.Nodup
  dict : ∀ (i : Nat) (d : Addr) (s : List (L × Nat)), ds[i]? = some d → fs.steps[i]? = some s → H d = some (.dK (kvL s))
  ab : a ≠ b
  ac : a ≠ c
  bc : b ≠ c
  np : H0 p = none
  na : H0 a = none
  nb : H0 b = none
  nc : H0 c = none
  nds : ∀ d ∈ ds, H0 d = none
def FoldAt (K : PySem.W.Frag) (H0 H : Hp) (p : Addr) (fs : FS) : Prop := ∃ dx a b c ds prs, FoldA K H0 H p dx a b c ds prs fs
/-- what stood at first stands, and tuples -/
def Fr (H0 H H' : Hp) : Prop := (Ext H0 H → Ext H0 H') ∧ ∀ p vs, H p = some (.tup vs) → H' p = some (.tup vs)
theorem Fr.rfl' {H0 H : Hp} : Fr H0 H H := ⟨id, fun _ _ h => h⟩
theorem Fr.trans {H0 H H' H2 : Hp} (a : Fr H0 H H') (b : Fr H0 H' H2) : Fr H0 H H2 := ⟨fun x => b.1 (a.1 x), fun p vs h => b.2 p vs (a.2 p vs h)⟩
theorem Ext.fr {H0 H H' : Hp} (x : Ext H H') : Fr H0 H H' := ⟨fun y => y.trans x, fun p vs h => x _ _ h⟩
theorem Fr.put {H0 H : Hp} {p : Addr} {u o : HO} (n : H0 p = none) (h : H p = some u) (hu : ∀ vs, u ≠ .tup vs) : Fr H0 H (upd H p o) := by
  refine ⟨fun x => Ext.put n x, fun q vs e => ?_⟩
  rw [upd_ne (ne_at e h (fun z => hu vs z.symm))]
  exact e
section
variable {K : PySem.W.Frag} {H0 H H' : Hp} {p dx a b c : Addr} {ds : List Addr} {prs : List (Addr × Ro)} {fs : FS}
theorem FoldA.ext (f : FoldA K H0 H p dx a b c ds prs fs) (x : Ext H H') : FoldA K H0 H' p dx a b c ds prs fs :=
  ⟨x _ _ f.self, x _ _ f.heads, x _ _ f.steps, x _ _ f.wait, f.tups.ext x, f.same, f.len, f.nd, fun i d s h1 h2 => x _ _ (f.dict i d s h1 h2), f.ab, f.ac, f.bc, f.np, f.na, f.nb, f.nc, f.nds⟩
/-- another list of waiting roads -/
theorem FoldA.setW (f : FoldA K H0 H p dx a b c ds prs fs) {prs' : List (Addr × Ro)} (h : PrsAt H prs') : FoldA K H0 (upd H c (.lst (prV prs'))) p dx a b c ds prs' { fs with waiting := prs'.map (·.2) } := by
  have n1 : p ≠ c := ne_at f.self f.wait (fun z => nomatch z)
  refine ⟨by rw [upd_ne n1]; exact f.self, by rw [upd_ne f.ac]; exact f.heads, by rw [upd_ne f.bc]; exact f.steps, upd_same, fun q hq => ?_, rfl, f.len, f.nd, fun i d s h1 h2 => ?_, f.ab, f.ac, f.bc, f.np, f.na, f.nb, f.nc, f.nds⟩
  · rw [upd_ne (ne_at (h q hq) f.wait (fun z => nomatch z))]
    exact h q hq
  · have hd := f.dict i d s h1 h2
    rw [upd_ne (ne_at hd f.wait (fun z => nomatch z))]
    exact hd
theorem FoldA.frW (f : FoldA K H0 H p dx a b c ds prs fs) (o : HO) : Fr H0 H (upd H c o) := Fr.put f.nc f.wait (fun _ z => nomatch z)
/-- another dict of steps -/
theorem FoldA.setD (f : FoldA K H0 H p dx a b c ds prs fs) {i : Nat} {d : Addr} {s s' : List (L × Nat)} (hi : ds[i]? = some d) (hs : fs.steps[i]? = some s) : FoldA K H0 (upd H d (.dK (kvL s'))) p dx a b c ds prs { fs with steps := fs.steps.set i s' } := by
  have hd := f.dict i d s hi hs
  refine ⟨by rw [upd_ne (ne_at f.self hd (fun z => nomatch z))]; exact f.self, by rw [upd_ne (ne_at f.heads hd (fun z => nomatch z))]; exact f.heads, by rw [upd_ne (ne_at f.steps hd (fun z => nomatch z))]; exact f.steps, by rw [upd_ne (ne_at f.wait hd (fun z => nomatch z))]; exact f.wait,
    fun q hq => ?_, f.same, by rw [List.length_set]; exact f.len, f.nd, fun j e t h1 h2 => ?_, f.ab, f.ac, f.bc, f.np, f.na, f.nb, f.nc, f.nds⟩
  · rw [upd_ne (ne_at (f.tups q hq) hd (fun z => nomatch z))]
    exact f.tups q hq
  · rw [List.getElem?_set] at h2
    by_cases hj : i = j
    · subst hj
      rw [hi] at h1
      cases h1
      have hlt : i < fs.steps.length := (List.getElem?_eq_some_iff.mp hs).1
      rw [if_pos rfl, if_pos hlt] at h2
      cases h2
      exact upd_same
    · rw [if_neg hj] at h2
      have ne : e ≠ d := fun z => by
        subst z
        obtain ⟨l1, e1⟩ := List.getElem?_eq_some_iff.mp hi
        obtain ⟨l2, e2⟩ := List.getElem?_eq_some_iff.mp h1
        exact hj ((List.getElem_inj f.nd).mp (e1.trans e2.symm))
      rw [upd_ne ne]
      exact f.dict j e t h1 h2
theorem FoldA.frD (f : FoldA K H0 H p dx a b c ds prs fs) {i : Nat} {d : Addr} {s : List (L × Nat)} (hi : ds[i]? = some d) (hs : fs.steps[i]? = some s) (o : HO) : Fr H0 H (upd H d o) := Fr.put (f.nds d (List.mem_of_getElem? hi)) (f.dict i d s hi hs) (fun _ z => nomatch z)
end
/-! ### mirrors -/
def headW : Nat → List Nat → Nat → Option Nat
  | 0, _, _ => none
  | n + 1, hs, q => match hs[q]? with
    | some h => if h = q then some q else headW n hs h
    | none => none
/-- a road laid (where no places are made one) -/
def settleM (n : Nat) (fs : FS) (r : Ro) : Option FS :=
  match headW n fs.heads r.1, headW n fs.heads r.2.2 with
  | some first, some last =>
    match fs.steps[first]?, fs.steps[last]? with
    | some s1, some s2 =>
      match headW n fs.heads ((getA s1 r.2.1).getD last), headW n fs.heads ((getA s2 (bk r.2.1)).getD first) with
      | some there, some here =>
        if there = last ∧ here = first ∧ s1.length < 1000 then
          match (fs.steps.set first (putA s1 r.2.1 last))[last]? with
          | some s3 => if s3.length < 1000 then some { fs with steps := (fs.steps.set first (putA s1 r.2.1 last)).set last (putA s3 (bk r.2.1) first) } else none
          | none => none
        else none
      | _, _ => none
    | _, _ => none
  | _, _ => none
def drainM : Nat → Nat → FS → Option FS
  | 0, _, _ => none
  | k + 1, n, fs => match fs.waiting.getLast? with
    | none => some fs
    | some r => match settleM n { fs with waiting := fs.waiting.dropLast } r with
      | some fs' => drainM k n fs'
      | none => none
def putM (k n : Nat) (fs : FS) (r : Ro) : Option FS := drainM k n { fs with waiting := fs.waiting ++ [r] }
/-! ### [{} for .. in ..] -/
section
variable {J : It} {n : Nat} {G : Hp → Prop} {Y : Nat → Hp → V → Hp → Prop}
theorem lc_dicts (w : Walk J n G Y) {g : TG} {vs : List Nat} {σ : L2.St} {H1 : Hp} {D : Addr} {Qd : Hp → Prop} (hD : H1 D = none) (hz : n ≤ sizeLine) (hG : ∀ H, Ext H1 H → G H)
    (hs : ∀ i x H H' (Q : L2.St → Hp → Prop), i < n → Ext H1 H → Y i H x H' → (∀ σ2 H4, Ext H H4 → wipe σ2 vs = wipe σ vs → Q σ2 H4) → g x (wipe σ vs) H' Q)
    (hd : ∀ H ds, Ext H1 H → H D = some (.lst (rfs ds)) → ds.length = n → ds.Nodup → (∀ d ∈ ds, H d = some (.dK []) ∧ H1 d = none) → Qd H) :
    ∃ W : Nat → Nat → Hp → Prop, (∃ m, W 0 m (upd H1 D (.lst []))) ∧ ∀ i m H, W i m H →
      (J.stop i H ∧ Qd H) ∨ (J.go i H ∧ ∃ Nx : Hp → Prop, (∀ H', Nx H' → ∃ m', m' < m ∧ W (i + 1) m' H') ∧ ∀ x H', J.yld i H x H' → g x (wipe σ vs) H' fun σ2 H2 => wipe σ2 vs = wipe σ vs ∧ tYes σ2 H2 fun b H3 =>
        if b = true then tDNewK σ2 H3 fun y H4 => ∃ acc, H4 D = some (.lst acc) ∧ acc.length < sizeLine ∧ Nx (upd H4 D (.lst (acc ++ [y]))) else Nx H3) := by
  refine lc_it w (fun i H => Ext H1 H ∧ ∃ ds, H D = some (.lst (rfs ds)) ∧ ds.length = i ∧ ds.Nodup ∧ ∀ d ∈ ds, H d = some (.dK []) ∧ H1 d = none) ⟨Ext.new hD, [], upd_same, rfl, List.nodup_nil, fun _ h => nomatch h⟩ (fun i H _ p => hG H p.1) (fun i x H H' hi p y => ?_) (fun H p => ?_)
  · obtain ⟨x1, ds, hx, hl, hnd, hds⟩ := p
    refine hs i x H H' _ hi x1 y fun σ2 H4 x4 hw => ⟨hw, fun d hdn => ?_⟩
    have hx4 := x4 _ _ hx
    have nD : d ≠ D := fun z => by rw [z, hx4] at hdn; cases hdn
    have hn1 : H1 d = none := (x1.trans x4).fresh hdn
    refine ⟨rfs ds, (Ext.new hdn) _ _ hx4, by rw [List.length_map]; omega, Ext.put hD ((x1.trans x4).trans (Ext.new hdn)), ds ++ [d], ?_, by simp [hl], ?_, ?_⟩
    · rw [upd_same]
      unfold rfs
      rw [List.map_append]
      rfl
    · refine List.nodup_append.mpr ⟨hnd, List.nodup_cons.mpr ⟨(fun z => nomatch z), List.nodup_nil⟩, fun a ha b hb e => ?_⟩
      rw [List.mem_singleton] at hb
      subst hb
      subst e
      rw [x4 _ _ (hds a ha).1] at hdn
      cases hdn
    · intro a ha
      rcases List.mem_append.mp ha with ha | ha
      · obtain ⟨h1, h2⟩ := hds a ha
        have h4 := (x4.trans (Ext.new (o := .dK []) hdn)) _ _ h1
        rw [upd_ne (ne_at h4 ((Ext.new (o := .dK []) hdn) _ _ hx4) (fun z => nomatch z))]
        exact ⟨h4, h2⟩
      · rw [List.mem_singleton] at ha
        subst ha
        rw [upd_ne nD, upd_same]
        exact ⟨rfl, hn1⟩
  · obtain ⟨x1, ds, hx, hl, hnd, hds⟩ := p
    exact hd H ds x1 hx hl hnd hds
end
theorem rgV_0 (m : Nat) : rgV 0 (m : Int) = (List.range m).map vN := by
  unfold rgV
  rw [show ((m : Int) - 0).toNat = m by omega]
  exact List.map_congr_left fun i _ => by
    show V.int (0 + (i : Int)) = _
    rw [Int.zero_add]
/-! ### new roads, one or none for each turn -/
section
variable {J : It} {n : Nat} {G : Hp → Prop} {Y : Nat → Hp → V → Hp → Prop}
theorem lc_prs (w : Walk J n G Y) {g : TG} {tt : TT} {te : TE} {vs : List Nat} {σ : L2.St} {H1 : Hp} {D : Addr} {Qd : Hp → Prop} (f : Nat → Option Ro) (hD : H1 D = none) (hz : n ≤ sizeLine) (hG : ∀ H, Ext H1 H → G H)
    (hs : ∀ i x H H' (Q : VK) (N : Hp → Prop), i < n → Ext H1 H → Y i H x H' → (∀ t r H4, f i = some r → Ext H H4 → H4 t = some (.tup (rV r)) → Q (.ref t) H4) → (∀ H4, f i = none → Ext H H4 → N H4) →
      g x (wipe σ vs) H' fun σ2 H2 => wipe σ2 vs = wipe σ vs ∧ tt σ2 H2 fun b H3 => if b = true then te σ2 H3 Q else N H3)
    (hd : ∀ H prs, Ext H1 H → H D = some (.lst (prV prs)) → PrsAt H prs → prs.map (·.2) = (List.range n).filterMap f → Qd H) :
    ∃ W : Nat → Nat → Hp → Prop, (∃ m, W 0 m (upd H1 D (.lst []))) ∧ ∀ i m H, W i m H →
      (J.stop i H ∧ Qd H) ∨ (J.go i H ∧ ∃ Nx : Hp → Prop, (∀ H', Nx H' → ∃ m', m' < m ∧ W (i + 1) m' H') ∧ ∀ x H', J.yld i H x H' → g x (wipe σ vs) H' fun σ2 H2 => wipe σ2 vs = wipe σ vs ∧ tt σ2 H2 fun b H3 =>
        if b = true then te σ2 H3 fun y H4 => ∃ acc, H4 D = some (.lst acc) ∧ acc.length < sizeLine ∧ Nx (upd H4 D (.lst (acc ++ [y]))) else Nx H3) := by
  refine lc_it w (fun i H => Ext H1 H ∧ ∃ prs, H D = some (.lst (prV prs)) ∧ PrsAt H prs ∧ prs.map (·.2) = (List.range i).filterMap f ∧ prs.length ≤ i) ⟨Ext.new hD, [], upd_same, (fun _ z => nomatch z), rfl, Nat.zero_le _⟩ (fun i H _ p => hG H p.1) (fun i x H H' hi p y => ?_) (fun H p => ?_)
  · obtain ⟨x1, prs, hx, hp, he, hl⟩ := p
    refine hs i x H H' (fun y H4 => ∃ acc, H4 D = some (.lst acc) ∧ acc.length < sizeLine ∧ (Ext H1 (upd H4 D (.lst (acc ++ [y]))) ∧ ∃ prs, upd H4 D (.lst (acc ++ [y])) D = some (.lst (prV prs)) ∧ PrsAt (upd H4 D (.lst (acc ++ [y]))) prs ∧ prs.map (·.2) = (List.range (i + 1)).filterMap f ∧ prs.length ≤ i + 1))
      (fun H4 => Ext H1 H4 ∧ ∃ prs, H4 D = some (.lst (prV prs)) ∧ PrsAt H4 prs ∧ prs.map (·.2) = (List.range (i + 1)).filterMap f ∧ prs.length ≤ i + 1) hi x1 y (fun t r H4 e x4 ht => ?_) (fun H4 e x4 => ?_)
    · have h4 := x4 _ _ hx
      refine ⟨_, h4, by rw [List.length_map]; omega, Ext.put hD (x1.trans x4), prs ++ [(t, r)], ?_, fun a ha => ?_, ?_, by simp; omega⟩
      · rw [upd_same]
        unfold prV
        rw [List.map_append]
        rfl
      · rcases List.mem_append.mp ha with ha | ha
        · have hb := x4 _ _ (hp a ha)
          rw [upd_ne (ne_at hb h4 (fun z => nomatch z))]
          exact hb
        · rw [List.mem_singleton] at ha
          subst ha
          rw [upd_ne (ne_at ht h4 (fun z => nomatch z))]
          exact ht
      · rw [List.map_append, he, List.range_succ, List.filterMap_append]
        simp [e]
    · refine ⟨x1.trans x4, prs, x4 _ _ hx, hp.ext x4, ?_, by omega⟩
      rw [he, List.range_succ, List.filterMap_append]
      simp [e]
  · obtain ⟨x1, prs, hx, hp, he, hl⟩ := p
    exact hd H prs x1 hx hp he
end
def loX (j : Nat) : L := if h : j < 6 then ⟨2 * j, by omega⟩ else 0
def rowR (n : Nat) (hs : List Nat) (i : Nat) (s : List (L × Nat)) : List Ro := (List.range 6).filterMap fun j => (getA s (loX j)).map fun q => (i, loX j, (headW n hs q).getD 0)
def roadsM (n : Nat) (fs : FS) : List Ro := (List.range fs.steps.length).flatMap fun i => rowR n fs.heads i (fs.steps.getD i [])
def HeadsOk (n : Nat) (fs : FS) : Prop := ∀ s ∈ fs.steps, ∀ (x : L) (q : Nat), getA s x = some q → (headW n fs.heads q).isSome = true
theorem dget_l {H : Hp} {d : Addr} {s : List (L × Nat)} (h : H d = some (.dK (kvL s))) (x : L) : DGet H d (.str (lS x)) ((getA s x).map vN) := by
  rw [← val_enc (g := vN) kL_inj x s]
  exact DGet.k (k := kL x) h
def roD (r : Ro) : PyData := .tuple [.int r.1, .str (lS r.2.1), .int r.2.2]
theorem dp_prs {K : PySem.W.Frag} {H : Hp} {prs : List (Addr × Ro)} (h : PrsAt H prs) : DpAll K H (prV prs) (prs.map fun p => roD p.2) :=
  dp_map fun p hp => .tup (SqT.of (h p hp)) (.cons (.int _) (.cons (.str _) (.cons (.int _) .nil)))
theorem sh_prs (prs : List (Addr × Ro)) : SeqAt.shaped (.list (prs.map fun p => roD p.2)) = true := shaped_list fun d hd => by
  obtain ⟨p, _, rfl⟩ := List.mem_map.mp hd
  refine ⟨?_, ?_⟩
  · show (true && ((PyData.str (lS p.2.2.1)).canLay0 && (true && true))) = true
    rw [lay_l]
    rfl
  · show max 0 (max 0 (max 0 0)) + 1 ≤ 60
    decide
end BW


set_option Elab.async false
set_option linter.all false
set_option maxRecDepth 100000
set_option maxHeartbeats 4000000
namespace BW
open PySem PySem.Spec PyProof.Rows L2 BwS
theorem ext_unlock {H H2 : Hp} {d : Addr} {u : HO} {od : Obj} (h : H d = some u) (x : Ext (upd H d (.frz od u)) H2) : Ext H (upd H2 d u) := fun p o e => by
  by_cases hp : p = d
  · subst hp
    rw [h] at e
    cases e
    exact upd_same
  · rw [upd_ne hp]
    exact x _ _ (by rw [upd_ne hp]; exact e)
def Loops (prs : List (Addr × Ro)) : Prop := ∀ p ∈ prs, p.2.1 = 0 ∧ p.2.2.2 = 0
theorem eq_0 (q : Nat) : decide (V.int (q : Int) = V.int 0) = decide (q = 0) := by
  rw [Bool.eq_iff_iff]
  simp only [decide_eq_true_eq, V.int.injEq]
  omega
def tNo : TT := fun _ _ _ => False
theorem pt_no {X : Cx} {e : Expr} : PT X e tNo := ⟨fun _ _ _ _ _ _ h => False.elim h⟩
theorem flt_all (prs : List (Addr × Ro)) : (List.range prs.length).filterMap (fun i => prs[i]?.bind fun p => if (fun _ : Ro => true) p.2 = true then some (V.ref p.1) else none) = prV prs := by
  rw [prs_flt prs fun _ => true]
  congr 1
  simp
theorem Loops.at {prs : List (Addr × Ro)} (h : Loops prs) {t : Addr} {r1 : Nat} {x : L} {r2 : Nat} (hm : (t, (r1, x, r2)) ∈ prs) : r1 = 0 ∧ r2 = 0 := h _ hm
def putsM (j n : Nat) : FS → List Ro → Option FS
  | fs, [] => some fs
  | fs, r :: rs => if fs.waiting.length < 1000000 then (putM j n fs r).bind fun fs' => putsM j n fs' rs else none
theorem putsM_cons {j n : Nat} {fs fs2 : FS} {r : Ro} {rs : List Ro} (h : putsM j n fs (r :: rs) = some fs2) : fs.waiting.length < 1000000 ∧ ∃ fs', putM j n fs r = some fs' ∧ putsM j n fs' rs = some fs2 := by
  unfold putsM at h
  split at h
  · rename_i hl
    cases e : putM j n fs r with
    | none => rw [e] at h; cases h
    | some fs' =>
      rw [e] at h
      exact ⟨hl, fs', rfl, h⟩
  · cases h
end BW


set_option Elab.async false
set_option linter.all false
set_option maxRecDepth 100000
set_option maxHeartbeats 4000000
namespace BW
open PySem PySem.Spec PyProof.Rows L2
/-! the head's facts, at addresses that are written out -/
def obsA (ads : List Addr) (fa : List He.Fa) (fn : List He.DefD) (g : Addr → Option Obj) : He.AlD := He.obsD fa fn (He.frG g ads)
def hookA (ads : List Addr) (fa : List He.Fa) (fn : List He.DefD) : PySem.W.Hook where
  α := He.AlD
  obs := fun s => obsA ads fa fn s.heap.get?
  val := fun _ => He.valD fn
  says := fun _ h => ∃ K : PySem.W.Frag, K.In h ∧ He.SaysD fa fn K
  of := fun _ _ e => ⟨_, He.frG_in, e⟩
  keeps := fun _ _ _ ⟨K, hK, c⟩ k => ⟨K, PySem.W.Frag.In.keeps hK k, c⟩
theorem obsA_eq {ads : List Addr} {fa : List He.Fa} {fn : List He.DefD} {g : Addr → Option Obj} {s : Shared} (h : ∀ a, g a = s.heap.get? a) : obsA ads fa fn g = (hookA ads fa fn).obs s := by
  have e : g = s.heap.get? := funext h
  rw [e] <;> rfl
end BW


set_option Elab.async false
set_option linter.all false
set_option maxRecDepth 100000
set_option maxHeartbeats 4000000
namespace BW
open PySem PySem.Spec PyProof.Rows L2
/-! a caught exception is tracked from the clause on: it may be kept in a name, handed on, asked of its class later -/
/-- an exception object of the class q at a -/
def ExZ (q : Value) (d : Option Addr) (a : Addr) : HO := .ext fun hp => ∃ (x : Obj) (fl : Array Value), hp.get? a = some x ∧ Zc q d x ∧ x.data = .fields fl
theorem exZ_new {P : Program} {w : World} {H : Hp} {hp : Heap} {a : Addr} {q : Value} {d : Option Addr} {x : Obj} {fl : Array Value} (e : hp.get? a = some x) (z : Zc q d x) (f : x.data = .fields fl) : ObjOk P w H hp a (ExZ q d a) :=
  ⟨⟨x, fl, e, z, f⟩, ⟨x, e⟩, fun _ _ ⟨o, v, g, r⟩ k => ⟨o, v, k o g, r⟩⟩
section
variable {X : Cx} {pins : List (Addr × Obj)} {σ : L2.St} {H : Hp} {s : Shared} {q : Value} {d : Option Addr} {a : Addr} {x : Obj} {fl : Array Value}
theorem adopt (J : Inv X pins σ H s) (e : s.heap.get? a = some x) (z : Zc q d x) (f : x.data = .fields fl) (na : H a = none) (nL : a ≠ X.env.locals) (n0 : X.s_0.heap.get? a = none) (np : ∀ p ∈ X.pn ++ pins, p.1 ≠ a) : Inv X pins σ (upd H a (ExZ q d a)) s := by
  have other : ∀ {c : Addr} {u : HO}, H c = some u → c ≠ a := fun {c u} h1 h2 => by
    rw [h2, na] at h1
    cases h1
  refine ⟨J.ok, J.os, J.bare, ⟨J.base.keep, J.base.slot, fun b o h1 h2 h3 => ?_, J.base.there, fun b xs h1 => ?_, fun b o u h1 => ?_, fun b ps h1 => ?_⟩, J.loc, J.cell, ?_, fun y c h1 => ?_, fun p hp => ?_, fun b u h1 => ?_, J.len⟩
  · rw [upd_ne (fun h4 => by rw [h4, n0] at h1; cases h1)]
    exact J.base.free b o h1 h2 h3
  · have h2 := J.base.tups b xs h1
    rw [upd_ne (other h2)]
    exact h2
  · have h2 := J.base.frzs b o u h1
    rw [upd_ne (other h2)]
    exact h2
  · obtain ⟨more, h2⟩ := J.base.tbls b ps h1
    exact ⟨more, by rw [upd_ne (other h2)]; exact h2⟩
  · rw [upd_ne (Ne.symm nL)]
    exact J.free
  · have h2 : c ≠ a := fun h3 => by
      obtain ⟨v, o, h4, h5⟩ := J.cell y c h1
      rw [h3, e] at h4
      cases h4
      rw [f] at h5
      cases h5
    rw [upd_ne h2]
    exact J.freeC y c h1
  · obtain ⟨h1, h2, h3⟩ := J.pin p hp
    exact ⟨h1, by rw [upd_ne (np p hp)]; exact h2, h3⟩
  · by_cases h2 : b = a
    · subst h2
      rw [upd_same] at h1
      cases h1
      exact exZ_new e z f
    · rw [upd_ne h2] at h1
      refine (J.hok b u h1).stay (fun _ _ _ h3 => h3) (fun c h3 => ?_) fun c xs h3 => ?_
      · rw [upd_ne (other h3)]
        exact h3
      · rw [upd_ne (other h3)]
        exact h3
theorem inSuite (J : Inv X pins σ H s) : Inv (X.suite a (X.pn ++ pins)) [] σ H s :=
  ⟨J.ok.suite _ _, J.os, J.bare, J.base, J.loc, J.cell, J.free, J.freeC, fun p hp => J.pin p (by rw [List.append_nil] at hp; exact hp), J.hok, J.len⟩
theorem offSuite {pn' : List (Addr × Obj)} (J : Inv (X.suite a (X.pn ++ pins)) pn' σ H s) (ok : X.Ok) : Inv X pins σ H s :=
  ⟨ok, J.os, J.bare, J.base, J.loc, J.cell, J.free, J.freeC, fun p hp => J.pin p (List.mem_append_left _ hp), J.hok, J.len⟩
end
/-- what the clause wishes of the body's exception: it is tracked in the suite and behind it -/
def wTk (K : PySem.W.Frag) (c : Value) (i : Nat) (tu : Addr → Value → Option Addr → TS) (Wo : WX) (D : Ends) : WX := fun q d σ H =>
  ∃ b, PySem.W.exmOne K q c = some b ∧ (b = true → ∀ a, H a = none → tu a q d { nx := fun σ' H' => D.nx (σ'.set i none) H', rt := D.rt, bk := fun σ' H' => D.bk (σ'.set i none) H', ct := fun σ' H' => D.ct (σ'.set i none) H' } (σ.set i (some (.ref a))) (upd H a (ExZ q d a))) ∧
    (b = false → Wo q d σ H)
theorem ps_tryT {X : Cx} {y n : Str} {c : Value} {i : Nat} {body more : List Stmt} {first : Stmt} {yp pos' pos : Pos} {tb : WX → TS} {tu : Addr → Value → Option Addr → TS} {Wo : WX} (hs : X.stack = X.env :: X.outer) (hf : X.env.frame = some X.env.locals) (hN : X.N.Nodup) (hi : X.N[i]? = some n)
    (hln : X.env.kindOf n = some .local) (hc : Names X y c) (hex : X.ex = []) (tk : Takes X Wo)
    (hb : ∀ (W : WX) (pn : List (Addr × Obj)) (xe : Value → Shared → Prop), Takes (X.tr pn xe) W → PassesOwn (model X.prog X.w) X.A X.env xe → PSs (X.tr pn xe) body (tb W))
    (hsu : ∀ (a : Addr) (q : Value) (d : Option Addr) (pn : List (Addr × Obj)), PSs (X.suite a pn) (first :: more) (tu a q d)) :
    PS X (.Try body [.ExceptHandler (some (.Name y yp)) (some n) (first :: more) pos'] [] [] pos) (fun D σ H => tb (wTk X.K c i tu Wo D) D σ H) := by
  refine ⟨fun pins s σ H D I h => ?_⟩
  have okX := I.ok
  have frX : X.A.frames = some (X.env :: X.outer) := by rw [okX.frames, hs]
  have locN : Loc X.env.scope n := .inl hln
  have run := (hb (wTk X.K c i tu Wo D) (X.pn ++ pins) (fun e s₁ => wpAny (model X.prog X.w) X.A (noteFrame e X.env) (fun _ s₂ => wpAny (model X.prog X.w) X.A (setFlight e none)
    (fun _ s₃ => wpAny (model X.prog X.w) X.A (handleBy e X.env [.ExceptHandler (some (.Name y yp)) (some n) (first :: more) pos']) (SP X pins D) X.xe s₃) X.xe s₂) X.xe s₁) (fun u s' air => ?_) PassesOwn.looking).run [] s σ H D (I.toTry _) h
  · refine wpAny_Try_except (wpAny_mono run (fun fw s1 sp => ?_) fun _ _ z => z)
    cases fw with
    | next => exact let ⟨σ', H', J, z⟩ := sp; wpAny_execs_nil ⟨σ', H', J.ofTry okX, z⟩
    | brk => exact let ⟨σ', H', J, z⟩ := sp; ⟨σ', H', J.ofTry okX, z⟩
    | cont => exact let ⟨σ', H', J, z⟩ := sp; ⟨σ', H', J.ofTry okX, z⟩
    | ret u => exact let ⟨v, σ', H', J, r, z⟩ := sp; ⟨v, σ', H', J.ofTry okX, r, z⟩
  · obtain ⟨a, B, sI, pins', σ', H', q, d, rfl, Jt, nb, up, sky, na, os, ag, b, hb1, yes, no⟩ := air
    have J : Inv X pins σ' H' sI := Jt.ofTry okX
    have skyX : Sky B (X.env :: X.outer) a (Zc q d) X.env.locals s'.heap := by rw [← hs]; exact sky
    show wpAny (model X.prog X.w) X.A (noteFrame (.ref a) X.env) _ _ _
    refine Sky.land Zc.steady frX hf skyX fun g flg upg => ?_
    have Jg : Inv X pins σ' H' { s' with heap := g } := J.landed nb flg.1 (up.trans upg) os ag
    obtain ⟨x, fl, eg, zg, fg⟩ := flg.there
    have noFr : a ∉ frs (X.env :: X.outer) := fun hm => by
      obtain ⟨_, o', e', hnf⟩ := flg.2.2.1.mem hm
      rw [eg] at e'
      cases e'
      exact hnf _ fg
    have nL : a ≠ X.env.locals := fun z => noFr (List.mem_filterMap.mpr ⟨X.env, List.mem_cons_self, by rw [hf, z]⟩)
    -- the exception is new
    have aI : sI.heap.get? a = none := by
      cases e : sI.heap.get? a with
      | none => rfl
      | some o =>
        have := nb a o e (by rw [hs]; exact noFr)
        rw [flg.2.1] at this
        cases this
    have a0 : X.s_0.heap.get? a = none := by
      cases e : X.s_0.heap.get? a with
      | none => rfl
      | some o =>
        obtain ⟨o', e'⟩ := J.base.there a o e (by rw [hex]; exact fun z => nomatch z)
        rw [aI] at e'
        cases e'
    have noPin : ∀ p ∈ X.pn ++ pins, p.1 ≠ a := fun p hp z => by
      have := (J.pin p hp).1
      rw [z, aI] at this
      cases this
    refine wpAny_handleBy_cons (codeAny_handlers_test ?_) (by intro z; cases z)
    have LT : PySem.W.Looks (model X.prog X.w) g (typeOf (.ref a)) q := fun A Q E s k z => wpAny_typeOf_ref (k _ _ eg) (by rw [zg.1]; exact z)
    have LM := PySem.W.exm_one (M := model X.prog X.w) (Jg.kIn) LT hb1
    have Sg : Inv (X.suite a (X.pn ++ pins)) [] σ' H' { s' with heap := g } := inSuite Jg
    have asks : ∀ {Q : Value → Shared → Prop} {E : Value → Shared → Prop}, Q c { s' with heap := g } → wpAny (model X.prog X.w) (X.A.mark (some (.ref a))) (eval (.Name y yp) X.env) Q E { s' with heap := g } := fun {Q E} z => by
      obtain ⟨h1, h2, h3 | ⟨h3, h4, h5⟩⟩ := hc
      · exact ld_glob (X := X.suite a (X.pn ++ pins)) Sg h1 h3 z h2
      · exact ld_blt (X := X.suite a (X.pn ++ pins)) Sg h1 h3 h4 z h5 h2
    refine asks (LM.here ?_)
    cases b with
    | true =>
      refine codeAny_handlers_suite_as (HandSPX.lands_againZ flg fun g2 fl2 up2 => ?_)
      have J2 : Inv X pins σ' H' { s' with heap := g2 } := J.landed nb fl2.1 ((up.trans upg).trans up2) os ag
      obtain ⟨x2, f2, e2, z2, d2⟩ := fl2.there
      have S2 : Inv (X.suite a (X.pn ++ pins)) [] σ' (upd H' a (ExZ q d a)) { s' with heap := g2 } := inSuite (adopt J2 e2 z2 d2 na nL a0 noPin)
      refine store_ok (X := X.suite a (X.pn ++ pins)) (v := .ref a) S2 hN hi locN rfl (fun s5 S5 => ?_) (.inr hln)
      refine wpAny_mono ((hsu a q d (X.pn ++ pins)).run [] s5 _ _ _ S5 (yes rfl a na)) (fun fw s6 sp => ?_) (fun _ _ z => False.elim z)
      have over : ∀ {σ6 : L2.St} {H6 : Hp} {Q : Shared → Prop}, Inv (X.suite a (X.pn ++ pins)) [] σ6 H6 s6 → (∀ s7, Inv X pins (σ6.set i none) H6 s7 → Q s7) → wpAny (model X.prog X.w) X.A (do bindName X.env n .none; unbindBehindTheSuite X.env n pos') (fun _ s7 => Q s7) X.xe s6 :=
        fun {σ6 H6 Q} S6 z => gone_ok (offSuite S6 okX) hN hi hln z
      cases fw with
      | next => exact let ⟨_, _, S6, z⟩ := sp; over S6 fun _ J7 => ⟨_, _, J7, z⟩
      | brk => exact let ⟨_, _, S6, z⟩ := sp; over S6 fun _ J7 => ⟨_, _, J7, z⟩
      | cont => exact let ⟨_, _, S6, z⟩ := sp; over S6 fun _ J7 => ⟨_, _, J7, z⟩
      | ret u => exact let ⟨_, _, _, S6, r6, z⟩ := sp; over S6 fun _ J7 => ⟨_, _, _, J7, r6, z⟩
    | false =>
      show wpAny _ X.A (handleBy (.ref a) X.env []) _ _ _
      refine wpAny_handleBy_nil ?_
      obtain ⟨_, _, _, xo, xs, T, oT, ts', he, hz, hd, h1, hr⟩ := id flg
      unfold PySem.passOn
      refine wpAny_bind (wpAny_field he hd h1 ?_)
      rw [if_neg (show ¬ ((Value.ref T == Value.none) = true) from by simp)]
      have away : wpAny (model X.prog X.w) X.A (setFlight (.ref a) X.env.frame) (fun _ s4 => wpAny (model X.prog X.w) X.A (throw (.ref a) : Sem Flow) (SP X pins D) X.xe s4) X.xe { s' with heap := g } := by
        rw [hf]
        refine HandSPX.setFlight_upZ flg fun g4 hg4 up4 => wpAny_throw (tk _ _ ⟨a, B, sI, pins, σ', H', q, d, rfl, J, nb, (up.trans upg).trans up4, .inr (.inr (by rw [hs]; exact hg4)), na, os, ag, no rfl⟩)
      first
        | exact wpAny_bind (wpAny_pure (wpAny_bind away))
        | exact wpAny_bind away
/-- isinstance(x, C), x a tracked exception of the class at D -/
def rIsZ (K : PySem.W.Frag) : List V → Hp → VK → Prop := fun xs H Q => ∃ (a D C : Addr) (b : Bool), xs = [.ref a, .ref C] ∧ H a = some (ExZ (.ref D) none a) ∧ ExcC K D ∧ PySem.W.kitOne K (.ref D) (.ref C) = some b ∧ Q (.bl b) H
theorem call_isZ {X : Cx} : CallR X (.builtin "isinstance") (rIsZ X.K) := by
  intro pins s σ H xs us Q I r h
  obtain ⟨a, D, C, b, rfl, ha, E, e, q⟩ := h
  obtain ⟨u1, u2, rfl, r1, r2⟩ := vals2 r
  cases (show u1 = Value.ref a from r1)
  cases (show u2 = Value.ref C from r2)
  obtain ⟨x, fl, ex, zx, fx⟩ : ∃ (x : Obj) (fl : Array Value), s.heap.get? a = some x ∧ Zc (.ref D) none x ∧ x.data = .fields fl := (I.hok a _ ha).1
  have J : PySem.W.InstAt s.heap a x D none := by
    obtain ⟨oc, od, oda, osl⟩ := x
    obtain ⟨z1, z2⟩ := zx
    dsimp only at z1 z2 fx
    subst z1 z2 fx
    exact ⟨ex, rfl, rfl, trivial⟩
  exact PySem.W.kia_one (PySem.W.handS_kitx_exc E.hg E.hk E.hs E.hd E.ha E.hn E.ht E.hm) I.kIn J e (fun z => nomatch z) fun tk => ⟨.bl b, H, I.kept (t' := tk) fun _ _ z => z, rfl, q⟩
end BW


set_option Elab.async false
set_option linter.all false
set_option maxRecDepth 100000
set_option maxHeartbeats 4000000
namespace BW
open PySem PySem.Spec PyProof.Rows L2
/-! more facts of the written part, each by a Bool -/
def objC : Option (Option Value) := some (some (.builtin "object.__class__"))
def glB (K : PySem.W.Frag) : Bool := He.eqO (PySem.W.specialIn K (.builtin "object.__class__") "__get__") (some (some (.builtin "getset_descriptor.__get__"))) && decide (PySem.W.takesIn K (.builtin "object.__class__") = some true)
def insB (K : PySem.W.Frag) (x : Str) : Bool := He.eqO (PySem.W.findIn K (.ref (He.ga K x)) "__class__") objC && decide (PySem.W.mroIn K (He.ga K x) (.type "object") = some true)
def kitV (K : PySem.W.Frag) (x : Option Str) : Value := match x with
  | some x => .ref (He.ga K x)
  | none => .type "NoneType"
def kitB' (K : PySem.W.Frag) (x : Option Str) (y : Str) (b : Bool) : Bool := decide (PySem.W.kitOne K (kitV K x) (.ref (He.ga K y)) = some b)
def excB (K : PySem.W.Frag) (x : Str) : Bool := He.eqO (PySem.W.findIn K (.ref (He.ga K x)) "__getattribute__") (some (some (.builtin "BaseException.__getattribute__"))) && (He.eqO (PySem.W.findIn K (.ref (He.ga K x)) "__getattr__") (some none) &&
  (decide (PySem.W.subIn K (.ref (He.ga K x)) (.type "BaseException") = some true) && (PySem.W.hasDictIn K (He.ga K x) && insB K x)))
def exmB (K : PySem.W.Frag) (x y : Str) (b : Bool) : Bool := decide (PySem.W.exmOne K (.ref (He.ga K x)) (.ref (He.ga K y)) = some b)
def GlF (K : PySem.W.Frag) : Prop := PySem.W.specialIn K (.builtin "object.__class__") "__get__" = some (some (.builtin "getset_descriptor.__get__")) ∧ PySem.W.takesIn K (.builtin "object.__class__") = some true
def InsF (K : PySem.W.Frag) (x : Str) : Prop := PySem.W.findIn K (.ref (He.ga K x)) "__class__" = some (some (.builtin "object.__class__")) ∧ PySem.W.mroIn K (He.ga K x) (.type "object") = some true
def KitF (K : PySem.W.Frag) (x : Option Str) (y : Str) (b : Bool) : Prop := PySem.W.kitOne K (kitV K x) (.ref (He.ga K y)) = some b
def ExmF (K : PySem.W.Frag) (x y : Str) (b : Bool) : Prop := PySem.W.exmOne K (.ref (He.ga K x)) (.ref (He.ga K y)) = some b
theorem gl_of {K : PySem.W.Frag} (h : glB K = true) : GlF K := by
  obtain ⟨h1, h2⟩ := He.ba h
  exact ⟨He.eqO_ok h1, of_decide_eq_true h2⟩
theorem ins_of {K : PySem.W.Frag} {x : Str} (h : insB K x = true) : InsF K x := by
  obtain ⟨h1, h2⟩ := He.ba h
  exact ⟨He.eqO_ok h1, of_decide_eq_true h2⟩
theorem kit_of' {K : PySem.W.Frag} {x : Option Str} {y : Str} {b : Bool} (h : kitB' K x y b = true) : KitF K x y b := of_decide_eq_true (p := PySem.W.kitOne K (kitV K x) (.ref (He.ga K y)) = some b) h
theorem exm_of' {K : PySem.W.Frag} {x y : Str} {b : Bool} (h : exmB K x y b = true) : ExmF K x y b := of_decide_eq_true (p := PySem.W.exmOne K (.ref (He.ga K x)) (.ref (He.ga K y)) = some b) h
theorem excC_of {K : PySem.W.Frag} {x : Str} (g : GlF K) (h : excB K x = true) : ExcC K (He.ga K x) := by
  obtain ⟨h1, h⟩ := He.ba h
  obtain ⟨h2, h⟩ := He.ba h
  obtain ⟨h3, h⟩ := He.ba h
  obtain ⟨h4, h⟩ := He.ba h
  obtain ⟨h5, h6⟩ := ins_of h
  exact ⟨He.eqO_ok h1, He.eqO_ok h2, of_decide_eq_true h3, h4, h5, g.1, g.2, h6⟩
theorem exs_at {l : List Bool} (h : l.all id = true) (i : Nat) {b : Bool} (e : l[i]? = some b) : b = true := List.all_eq_true.mp h b (List.mem_of_getElem? e)
/-- an instance's type -/
theorem ty_ins {K : PySem.W.Frag} {H : Hp} {a dx : Addr} {x : Str} {fs : List (Str × V)} (e : H a = some (.ins (He.ga K x) dx fs)) (c : Cls K (He.ga K x)) (i : InsF K x) (g : GlF K) : TyX K H (.ref a) (.ref (He.ga K x)) := .base (.ins e c i.1 g.1 g.2 i.2)
/-! the head's facts with these -/
def obsB (ads : List Addr) (ex : PySem.W.Frag → List Bool) (fa : List He.Fa) (fn : List He.DefD) (g : Addr → Option Obj) : Bool × He.AlD := ((ex (He.frG g ads)).all id, He.obsD fa fn (He.frG g ads))
def hookB (ads : List Addr) (ex : PySem.W.Frag → List Bool) (fa : List He.Fa) (fn : List He.DefD) : PySem.W.Hook where
  α := Bool × He.AlD
  obs := fun s => obsB ads ex fa fn s.heap.get?
  val := fun _ => (true, He.valD fn)
  says := fun _ h => ∃ K : PySem.W.Frag, K.In h ∧ (ex K).all id = true ∧ He.SaysD fa fn K
  of := fun _ _ e => ⟨_, He.frG_in, congrArg Prod.fst e, congrArg Prod.snd e⟩
  keeps := fun _ _ _ ⟨K, hK, c⟩ k => ⟨K, PySem.W.Frag.In.keeps hK k, c⟩
theorem obsB_eq {ads : List Addr} {ex : PySem.W.Frag → List Bool} {fa : List He.Fa} {fn : List He.DefD} {g : Addr → Option Obj} {s : Shared} (h : ∀ a, g a = s.heap.get? a) : obsB ads ex fa fn g = (hookB ads ex fa fn).obs s := by
  have e : g = s.heap.get? := funext h
  rw [e] <;> rfl
end BW


set_option Elab.async false
set_option linter.all false
set_option maxRecDepth 100000
set_option maxHeartbeats 4000000
namespace BW
open PySem PySem.Spec PyProof.Rows L2
/-! a method's call within a try: what it lets out is told with the slots -/
def tMethAt (C : Addr) (m : Str) (sp : Sp) (E : L2.St → XK) (ta : TE) (t : TA) : TE := fun σ H Q => ta σ H fun x H1 => ∃ a dx fs, x = .ref a ∧ H1 a = some (.ins C dx fs) ∧ fs.lookup m = none ∧ t σ H1 fun vs H2 => sp (x :: vs) H2 Q (E σ)
theorem pe_mAt {X : Cx} {k : Nat} {c m : Str} {ps : List Str} {sp : Sp} {E : L2.St → XK} {o e : Expr} {es : List Expr} {ta : TE} {t : TA} {pos apos : Pos} {pl : Sem Bool} (he : PE X o ta) (cl : ClsF X.K X.mg c) (O : OkM X.prog X.w X.K X.mg X.base k c m ps sp) (hr : Room k X.A)
    (hx : ∀ σ, PassesAt (L2.CX X.prog X.w) X σ (E σ)) (ha : PA X (e :: es) t) (hst : starEach (e :: es) X.env = (false, eval e X.env) :: starEach es X.env := by rfl) (hpl : (backTo pos (starEach es X.env)).any (·.1) = false := by rfl)
    (ht : eval (.Call (.Attribute o m apos) (e :: es) [] pos) X.env = (do
      let ov ← eval o X.env
      standAt apos.atName
      let (f, first) ← holding [ov] (getMethod ov m pl)
      callWith pos f first (backTo pos (starEach (e :: es) X.env)) (backToKw pos (keywordEach [] X.env))) := by rfl) :
    PE X (.Call (.Attribute o m apos) (e :: es) [] pos) (tMethAt (He.ga X.K c) m sp E ta t) := by
  obtain ⟨f, fd, F, hb, M⟩ := O
  refine ⟨fun pins s σ H Q I h => PySem.W.methodCall_KW (pl := pl) (thn (he.run pins s σ H _ I h) fun u s1 ⟨x, H1, I1, rx, a, dx, fs, ex, ea, l, q⟩ => ?_) ht⟩
  subst ex
  cases (show u = Value.ref a from rx)
  exact getmeth_ok I1 ea cl.2 M l (PySem.W.callWith_K (first := [.ref a]) (h₀ := X.base) I.ok.mod.kin M.kp (thn (ha.run pos pins s1 σ H1 _ I1 q) fun us s2 ⟨vs, H2, I2, r, q2⟩ => ⟨I2.kIn, run_fnS (us := .ref a :: us) (vs := .ref a :: vs) F hr hb (hx σ) I2 (.cons rfl r) q2⟩) hst hpl)
theorem exc_glo {K : PySem.W.Frag} {mg : Str → Option Value} {x : Str} (h : ExcF K mg x) : mg x = some (.ref (He.ga K x)) := by
  obtain ⟨C, g, rfl, _⟩ := h
  exact g
/-! texts put together, split at blanks -/
theorem spl_parts {parts : List (List Nat)} (h : parts ≠ []) (hs : ∀ p ∈ parts, 32 ∉ p) : Txt.split (tS (TL.joinL [32] parts)) " " = parts.map tS := by
  have e := SX.split_S (a := TL.joinL [32] parts) (b := [32]) (by simp) (by decide)
  rw [TL.spl_join h hs] at e
  exact e
theorem cat_S (a b : List Nat) : tS a ++ tS b = tS (a ++ b) := SX.S_cat a b
end BW


set_option Elab.async false
set_option linter.all false
set_option maxRecDepth 100000
set_option maxHeartbeats 0
namespace BW
open PySem PySem.Spec PyProof.Rows L2
def top (i : Nat) : Stmt := PySem.Challenge.pw_backwords_k96_two_desks.main.body.getD i (.Pass ⟨0, 0, 0, 0⟩)
abbrev s_top__wall : Stmt := top 0
abbrev n_top__wall : Str := "_wall"
abbrev s_words_back_of : Stmt := top 14
abbrev n_words_back_of : Str := "back_of"
abbrev s_words_are_letters : Stmt := top 15
abbrev n_words_are_letters : Str := "are_letters"
abbrev s_words_is_word : Stmt := top 16
abbrev n_words_is_word : Str := "is_word"
abbrev s_words_need_word : Stmt := top 17
abbrev n_words_need_word : Str := "need_word_words"
abbrev s_words_put_together : Stmt := top 19
abbrev n_words_put_together : Str := "put_together"
abbrev s_words_times : Stmt := top 20
abbrev n_words_times : Str := "times"
abbrev s_words_back : Stmt := top 21
abbrev n_words_back : Str := "back"
abbrev s_words_is_whole : Stmt := top 22
abbrev n_words_is_whole : Str := "is_whole"
abbrev s_words_tail_length : Stmt := top 23
abbrev n_words_tail_length : Str := "tail_length"
abbrev s_words_key_of : Stmt := top 24
abbrev n_words_key_of : Str := "key_of"
abbrev s_words_is_before : Stmt := top 25
abbrev n_words_is_before : Str := "is_before"
abbrev s_words_in_order : Stmt := top 26
abbrev n_words_in_order : Str := "in_order"
abbrev s_webs_is_road : Stmt := top 29
abbrev n_webs_is_road : Str := "is_road"
abbrev s_webs_steps_of : Stmt := top 30
abbrev n_webs_steps_of : Str := "steps_of"
abbrev s_webs_Web___init__ : Stmt := inClass (top 31) 0
abbrev s_webs_Web_many : Stmt := inClass (top 31) 1
abbrev s_webs_Web_roads : Stmt := inClass (top 31) 2
abbrev s_webs_Web_step : Stmt := inClass (top 31) 3
abbrev s_webs_Web_along : Stmt := inClass (top 31) 4
abbrev s_webs_Web_leads : Stmt := inClass (top 31) 5
abbrev s_webs_Web_plain : Stmt := inClass (top 31) 6
abbrev s_webs_belongs : Stmt := top 32
abbrev n_webs_belongs : Str := "belongs"
abbrev s_webs_trimmed : Stmt := top 33
abbrev n_webs_trimmed : Str := "trimmed"
abbrev s_webs_is_held : Stmt := top 34
abbrev n_webs_is_held : Str := "is_held"
abbrev s_webs_come_to : Stmt := top 35
abbrev n_webs_come_to : Str := "come_to"
abbrev s_webs_plain_of : Stmt := top 36
abbrev n_webs_plain_of : Str := "plain_of"
abbrev s_folding_Folding___init__ : Stmt := inClass (top 40) 0
abbrev s_folding_Folding_head : Stmt := inClass (top 40) 1
abbrev s_folding_Folding_put : Stmt := inClass (top 40) 2
abbrev s_folding_Folding_settle : Stmt := inClass (top 40) 3
abbrev s_folding_Folding_unite : Stmt := inClass (top 40) 4
abbrev s_folding_Folding_roads : Stmt := inClass (top 40) 5
abbrev s_folding_beside : Stmt := top 41
abbrev n_folding_beside : Str := "beside"
abbrev s_folding_led_to : Stmt := top 42
abbrev n_folding_led_to : Str := "led_to"
abbrev s_folding_cut : Stmt := top 43
abbrev n_folding_cut : Str := "cut"
abbrev s_folding_plain_web : Stmt := top 44
abbrev n_folding_plain_web : Str := "plain_web"
abbrev s_folding_folded : Stmt := top 45
abbrev n_folding_folded : Str := "folded"
abbrev s_folding_need_given : Stmt := top 46
abbrev n_folding_need_given : Str := "need_given"
abbrev s_folding_circles : Stmt := top 47
abbrev n_folding_circles : Str := "circles"
abbrev s_folding_web_of : Stmt := top 48
abbrev n_folding_web_of : Str := "web_of"
abbrev s_notes_note_times : Stmt := top 51
abbrev n_notes_note_times : Str := "note_times"
abbrev s_notes_note_back : Stmt := top 52
abbrev n_notes_note_back : Str := "note_back"
abbrev s_notes_word_pairs : Stmt := top 53
abbrev n_notes_word_pairs : Str := "word_pairs"
abbrev s_notes_Noted___init__ : Stmt := inClass (top 54) 0
abbrev s_notes_Noted_circle : Stmt := inClass (top 54) 1
abbrev s_notes_Noted_tied_by : Stmt := inClass (top 54) 2
abbrev s_notes_Noted_now : Stmt := inClass (top 54) 3
abbrev s_notes_Noted_settle : Stmt := inClass (top 54) 4
abbrev s_notes_Noted_meet : Stmt := inClass (top 54) 5
abbrev s_notes_Noted_leave : Stmt := inClass (top 54) 6
abbrev s_notes_Noted_noted : Stmt := inClass (top 54) 7
abbrev s_clubrows_Club___init__ : Stmt := inClass (top 56) 0
abbrev s_clubrows_Club_words : Stmt := inClass (top 56) 1
abbrev s_clubrows_Club_web : Stmt := inClass (top 56) 2
abbrev s_clubrows_Club_row_of : Stmt := inClass (top 56) 3
abbrev s_clubrows_Club_comes_to : Stmt := inClass (top 56) 4
abbrev s_clubrows_Club_tied : Stmt := inClass (top 56) 5
abbrev s_fewest_tree_of : Stmt := top 58
abbrev n_fewest_tree_of : Str := "tree_of"
abbrev s_fewest_way_to : Stmt := top 59
abbrev n_fewest_way_to : Str := "way_to"
abbrev s_fewest_ways : Stmt := top 60
abbrev n_fewest_ways : Str := "ways"
abbrev s_fewest_others : Stmt := top 61
abbrev n_fewest_others : Str := "others"
abbrev s_fewest_fewest : Stmt := top 62
abbrev n_fewest_fewest : Str := "fewest"
abbrev s_fewest_row_by : Stmt := top 63
abbrev n_fewest_row_by : Str := "row_by"
abbrev s_clubs_same : Stmt := top 65
abbrev n_clubs_same : Str := "same"
abbrev s_clubs_within : Stmt := top 66
abbrev n_clubs_within : Str := "within"
abbrev s_clubs_common : Stmt := top 67
abbrev n_clubs_common : Str := "common"
abbrev s_clubs_joined : Stmt := top 68
abbrev n_clubs_joined : Str := "joined"
abbrev s_clubs_moved : Stmt := top 69
abbrev n_clubs_moved : Str := "moved"
abbrev s_copies_walked : Stmt := top 72
abbrev n_copies_walked : Str := "walked"
abbrev s_copies_least_of : Stmt := top 73
abbrev n_copies_least_of : Str := "least_of"
abbrev s_copies_need_word : Stmt := top 74
abbrev n_copies_need_word : Str := "need_word_copies"
abbrev s_copies_least : Stmt := top 76
abbrev n_copies_least : Str := "least"
abbrev s_copies_are_letters_told : Stmt := top 77
abbrev n_copies_are_letters_told : Str := "are_letters_told"
abbrev s_copies_copies : Stmt := top 78
abbrev n_copies_copies : Str := "copies"
abbrev s_cores_parts : Stmt := top 80
abbrev n_cores_parts : Str := "parts"
abbrev s_cores_root : Stmt := top 81
abbrev n_cores_root : Str := "root"
abbrev s_keeping_keeps : Stmt := top 84
abbrev n_keeping_keeps : Str := "keeps"
abbrev s_keeping_ends_at : Stmt := top 85
abbrev n_keeping_ends_at : Str := "ends_at"
abbrev s_keeping_Core___init__ : Stmt := inClass (top 86) 0
abbrev s_keeping_Core_find_root : Stmt := inClass (top 86) 1
abbrev s_keeping_Core_next_place : Stmt := inClass (top 86) 2
abbrev s_keeping_Core_likened : Stmt := inClass (top 86) 3
abbrev s_keeping_Core_words_to : Stmt := inClass (top 86) 4
abbrev s_keeping_keepers : Stmt := top 87
abbrev n_keeping_keepers : Str := "keepers"
abbrev s_movers_need_row : Stmt := top 90
abbrev n_movers_need_row : Str := "need_row"
abbrev s_movers_moved_by : Stmt := top 91
abbrev n_movers_moved_by : Str := "moved_by"
abbrev s_movers_goes_with : Stmt := top 92
abbrev n_movers_goes_with : Str := "goes_with"
abbrev s_movers_first_mover : Stmt := top 93
abbrev n_movers_first_mover : Str := "first_mover"
abbrev s_movers_along_powers : Stmt := top 94
abbrev n_movers_along_powers : Str := "along_powers"
abbrev s_movers_all_moved : Stmt := top 95
abbrev n_movers_all_moved : Str := "all_moved"
abbrev s_movers_tried_for : Stmt := top 96
abbrev n_movers_tried_for : Str := "tried_for"
abbrev s_movers_mover : Stmt := top 97
abbrev n_movers_mover : Str := "mover"
abbrev s_sendings_has_letters : Stmt := top 99
abbrev n_sendings_has_letters : Str := "has_letters"
abbrev s_sendings_Sending___init__ : Stmt := inClass (top 100) 0
abbrev s_sendings_Sending_into : Stmt := inClass (top 100) 1
abbrev s_sendings_Sending_many : Stmt := inClass (top 100) 2
abbrev s_sendings_Sending_words : Stmt := inClass (top 100) 3
abbrev s_sendings_Sending_image : Stmt := inClass (top 100) 4
abbrev s_sendings_Sending_sent : Stmt := inClass (top 100) 5
abbrev s_sendings_Sending_then : Stmt := inClass (top 100) 6
abbrev s_texts_written : Stmt := top 102
abbrev n_texts_written : Str := "written"
abbrev s_undoing_word_of : Stmt := top 104
abbrev n_undoing_word_of : Str := "word_of_undoing"
abbrev s_undoing_comes_from : Stmt := top 106
abbrev n_undoing_comes_from : Str := "comes_from"
abbrev s_undoing_undone : Stmt := top 107
abbrev n_undoing_undone : Str := "undone"
abbrev s_desk_is_name : Stmt := top 114
abbrev n_desk_is_name : Str := "is_name"
abbrev s_desk_word_of : Stmt := top 115
abbrev n_desk_word_of : Str := "word_of_desk"
abbrev s_desk_number_of : Stmt := top 117
abbrev n_desk_number_of : Str := "number_of"
abbrev s_desk_shown : Stmt := top 118
abbrev n_desk_shown : Str := "shown"
abbrev s_desk_all_shown : Stmt := top 119
abbrev n_desk_all_shown : Str := "all_shown"
abbrev s_desk_pairs_shown : Stmt := top 120
abbrev n_desk_pairs_shown : Str := "pairs_shown"
abbrev s_desk_yes_or_no : Stmt := top 121
abbrev n_desk_yes_or_no : Str := "yes_or_no"
abbrev s_desk_need_many : Stmt := top 122
abbrev n_desk_need_many : Str := "need_many"
abbrev s_desk_Desk___init__ : Stmt := inClass (top 123) 0
abbrev s_desk_Desk_keep : Stmt := inClass (top 123) 1
abbrev s_desk_Desk_club : Stmt := inClass (top 123) 2
abbrev s_desk_Desk_by_words : Stmt := inClass (top 123) 3
abbrev s_desk_Desk_sending : Stmt := inClass (top 123) 4
abbrev s_desk_Desk_say : Stmt := inClass (top 123) 5
abbrev s_desk_Desk_make : Stmt := inClass (top 123) 6
abbrev s_desk_Desk_ask_truth : Stmt := inClass (top 123) 7
abbrev s_desk_Desk_ask_club : Stmt := inClass (top 123) 8
abbrev s_desk_Desk_ask_sending : Stmt := inClass (top 123) 9
abbrev s_desk_Desk_ask_words : Stmt := inClass (top 123) 10
abbrev s_desk_Desk_ask_mover : Stmt := inClass (top 123) 11
abbrev s_law__law_mix : Stmt := top 125
abbrev n_law__law_mix : Str := "_law_mix"
abbrev s_law__law_name : Stmt := top 126
abbrev n_law__law_name : Str := "_law_name"
abbrev s_law__law_is_name : Stmt := top 127
abbrev n_law__law_is_name : Str := "_law_is_name"
abbrev s_law__law_said : Stmt := top 128
abbrev n_law__law_said : Str := "_law_said"
abbrev s_law__law_shown : Stmt := top 129
abbrev n_law__law_shown : Str := "_law_shown"
abbrev s_law_law : Stmt := top 130
abbrev n_law_law : Str := "law"
/-- what the top leaves, as the walks ask for it -/
structure Txt (K : PySem.W.Frag) (mg : Str → Option Value) : Prop where
  e_WordError : ExcF K mg "WordError"
  e_NoWord : ExcF K mg "NoWord"
  e_NoWeb : ExcF K mg "NoWeb"
  e_NoClub : ExcF K mg "NoClub"
  e_NoSending : ExcF K mg "NoSending"
  e_NoRow : ExcF K mg "NoRow"
  e_TooMany : ExcF K mg "TooMany"
  b_all : mg "all" = none
  b_any : mg "any" = none
  b_bool : mg "bool" = none
  b_enumerate : mg "enumerate" = none
  b_int : mg "int" = none
  b_isinstance : mg "isinstance" = none
  b_len : mg "len" = none
  b_list : mg "list" = none
  b_max : mg "max" = none
  b_min : mg "min" = none
  b_range : mg "range" = none
  b_reversed : mg "reversed" = none
  b_set : mg "set" = none
  b_sorted : mg "sorted" = none
  b_str : mg "str" = none
  b_tuple : mg "tuple" = none
  g_words_LETTERS : ∃ t, mg "LETTERS_words" = some (.str "abcdef" t)
  g_words_ORDER : ∃ t, mg "ORDER_words" = some (.str "aAbBcCdDeEfF" t)
  g_words_MOST_LETTERS : ∃ t, mg "MOST_LETTERS_words" = some (.int 60 t)
  g_webs_MOST_PLACES : ∃ t, mg "MOST_PLACES" = some (.int 200 t)
  g_folding_MOST_LOOSE : ∃ t, mg "MOST_LOOSE" = some (.int 2000 t)
  g_folding_MOST_WORDS : ∃ t, mg "MOST_WORDS_folding" = some (.int 8 t)
  g_desk_SMALL : ∃ t, mg "SMALL" = some (.str "abcdefghijklmnopqrstuvwxyz" t)
  g_desk_FIGURES : ∃ t, mg "FIGURES" = some (.str "0123456789" t)
  g_desk_MOST_LETTERS : ∃ t, mg "MOST_LETTERS_desk" = some (.int 8 t)
  g_desk_MOST_FIGURES : ∃ t, mg "MOST_FIGURES" = some (.int 2 t)
  g_desk_MOST_WORDS : ∃ t, mg "MOST_WORDS_desk" = some (.int 8 t)
  c_Web : ClsF K mg "Web"
  n_Web_size : NoAttr K (He.ga K "Web") "size"
  n_Web_steps : NoAttr K (He.ga K "Web") "steps"
  n_Web_kept : NoAttr K (He.ga K "Web") "kept"
  c_Folding : ClsF K mg "Folding"
  n_Folding_heads : NoAttr K (He.ga K "Folding") "heads"
  n_Folding_steps : NoAttr K (He.ga K "Folding") "steps"
  n_Folding_waiting : NoAttr K (He.ga K "Folding") "waiting"
  c_Club : ClsF K mg "Club"
  n_Club_first_words : NoAttr K (He.ga K "Club") "first_words"
  n_Club_folded_web : NoAttr K (He.ga K "Club") "folded_web"
  c_Sending : ClsF K mg "Sending"
  n_Sending_goal : NoAttr K (He.ga K "Sending") "goal"
  n_Sending_first_words : NoAttr K (He.ga K "Sending") "first_words"
  c_Desk : ClsF K mg "Desk"
  n_Desk_named : NoAttr K (He.ga K "Desk") "named"
  f_words_back_of : DefIn K mg "back_of" "back_of" "back_of" s_words_back_of
  f_words_are_letters : DefIn K mg "are_letters" "are_letters" "are_letters" s_words_are_letters
  f_words_is_word : DefIn K mg "is_word" "is_word" "is_word" s_words_is_word
  f_words_need_word : DefIn K mg "need_word_words" "need_word" "need_word" s_words_need_word
  f_words_put_together : DefIn K mg "put_together" "put_together" "put_together" s_words_put_together
  f_words_back : DefIn K mg "back" "back" "back" s_words_back
  f_words_is_whole : DefIn K mg "is_whole" "is_whole" "is_whole" s_words_is_whole
  f_webs_is_road : DefIn K mg "is_road" "is_road" "is_road" s_webs_is_road
  f_webs_steps_of : DefIn K mg "steps_of" "steps_of" "steps_of" s_webs_steps_of
  f_webs_Web___init__ : InitIn K mg "Web" "Web.__init__" s_webs_Web___init__
  f_webs_Web_many : MethIn K mg "Web" "many" "Web.many" s_webs_Web_many
  f_webs_Web_roads : MethIn K mg "Web" "roads" "Web.roads" s_webs_Web_roads
  f_webs_Web_step : MethIn K mg "Web" "step" "Web.step" s_webs_Web_step
  f_webs_Web_plain : MethIn K mg "Web" "plain" "Web.plain" s_webs_Web_plain
  f_webs_trimmed : DefIn K mg "trimmed" "trimmed" "trimmed" s_webs_trimmed
  f_webs_is_held : DefIn K mg "is_held" "is_held" "is_held" s_webs_is_held
  f_webs_come_to : DefIn K mg "come_to" "come_to" "come_to" s_webs_come_to
  f_webs_plain_of : DefIn K mg "plain_of" "plain_of" "plain_of" s_webs_plain_of
  f_folding_Folding___init__ : InitIn K mg "Folding" "Folding.__init__" s_folding_Folding___init__
  f_folding_Folding_head : MethIn K mg "Folding" "head" "Folding.head" s_folding_Folding_head
  f_folding_Folding_put : MethIn K mg "Folding" "put" "Folding.put" s_folding_Folding_put
  f_folding_Folding_settle : MethIn K mg "Folding" "settle" "Folding.settle" s_folding_Folding_settle
  f_folding_Folding_unite : MethIn K mg "Folding" "unite" "Folding.unite" s_folding_Folding_unite
  f_folding_Folding_roads : MethIn K mg "Folding" "roads" "Folding.roads" s_folding_Folding_roads
  f_folding_beside : DefIn K mg "beside" "beside" "beside" s_folding_beside
  f_folding_led_to : DefIn K mg "led_to" "led_to" "led_to" s_folding_led_to
  f_folding_cut : DefIn K mg "cut" "cut" "cut" s_folding_cut
  f_folding_plain_web : DefIn K mg "plain_web" "plain_web" "plain_web" s_folding_plain_web
  f_folding_folded : DefIn K mg "folded" "folded" "folded" s_folding_folded
  f_folding_need_given : DefIn K mg "need_given" "need_given" "need_given" s_folding_need_given
  f_folding_circles : DefIn K mg "circles" "circles" "circles" s_folding_circles
  f_folding_web_of : DefIn K mg "web_of" "web_of" "web_of" s_folding_web_of
  f_clubrows_Club___init__ : InitIn K mg "Club" "Club.__init__" s_clubrows_Club___init__
  f_clubrows_Club_web : MethIn K mg "Club" "web" "Club.web" s_clubrows_Club_web
  f_fewest_tree_of : DefIn K mg "tree_of" "tree_of" "tree_of" s_fewest_tree_of
  f_fewest_way_to : DefIn K mg "way_to" "way_to" "way_to" s_fewest_way_to
  f_fewest_ways : DefIn K mg "ways" "ways" "ways" s_fewest_ways
  f_fewest_others : DefIn K mg "others" "others" "others" s_fewest_others
  f_fewest_fewest : DefIn K mg "fewest" "fewest" "fewest" s_fewest_fewest
  f_sendings_has_letters : DefIn K mg "has_letters" "has_letters" "has_letters" s_sendings_has_letters
  f_sendings_Sending___init__ : InitIn K mg "Sending" "Sending.__init__" s_sendings_Sending___init__
  f_sendings_Sending_many : MethIn K mg "Sending" "many" "Sending.many" s_sendings_Sending_many
  f_sendings_Sending_image : MethIn K mg "Sending" "image" "Sending.image" s_sendings_Sending_image
  f_sendings_Sending_sent : MethIn K mg "Sending" "sent" "Sending.sent" s_sendings_Sending_sent
  f_desk_is_name : DefIn K mg "is_name" "is_name" "is_name" s_desk_is_name
  f_desk_word_of : DefIn K mg "word_of_desk" "word_of" "word_of" s_desk_word_of
  f_desk_number_of : DefIn K mg "number_of" "number_of" "number_of" s_desk_number_of
  f_desk_shown : DefIn K mg "shown" "shown" "shown" s_desk_shown
  f_desk_all_shown : DefIn K mg "all_shown" "all_shown" "all_shown" s_desk_all_shown
  f_desk_need_many : DefIn K mg "need_many" "need_many" "need_many" s_desk_need_many
  f_desk_Desk___init__ : InitIn K mg "Desk" "Desk.__init__" s_desk_Desk___init__
  f_desk_Desk_keep : MethIn K mg "Desk" "keep" "Desk.keep" s_desk_Desk_keep
  f_desk_Desk_club : MethIn K mg "Desk" "club" "Desk.club" s_desk_Desk_club
  f_desk_Desk_sending : MethIn K mg "Desk" "sending" "Desk.sending" s_desk_Desk_sending
  f_desk_Desk_say : MethIn K mg "Desk" "say" "Desk.say" s_desk_Desk_say
  f_desk_Desk_make : MethIn K mg "Desk" "make" "Desk.make" s_desk_Desk_make
  f_desk_Desk_ask_club : MethIn K mg "Desk" "ask_club" "Desk.ask_club" s_desk_Desk_ask_club
  f_desk_Desk_ask_sending : MethIn K mg "Desk" "ask_sending" "Desk.ask_sending" s_desk_Desk_ask_sending
  f_law__law_mix : DefIn K mg "_law_mix" "_law_mix" "_law_mix" s_law__law_mix
  f_law__law_name : DefIn K mg "_law_name" "_law_name" "_law_name" s_law__law_name
  f_law__law_is_name : DefIn K mg "_law_is_name" "_law_is_name" "_law_is_name" s_law__law_is_name
  f_law__law_said : DefIn K mg "_law_said" "_law_said" "_law_said" s_law__law_said
  f_law__law_shown : DefIn K mg "_law_shown" "_law_shown" "_law_shown" s_law__law_shown
  f_law_law : DefIn K mg "law" "law" "law" s_law_law
  x_gl : GlF K
  i_Club : InsF K "Club"
  i_Sending : InsF K "Sending"
  i_Web : InsF K "Web"
  k_Club_Club : KitF K (some "Club") "Club" true
  k_Sending_Club : KitF K (some "Sending") "Club" false
  k_None_Club : KitF K none "Club" false
  k_Club_Web : KitF K (some "Club") "Web" false
  k_Sending_Web : KitF K (some "Sending") "Web" false
  k_None_Web : KitF K none "Web" false
  k_Club_Sending : KitF K (some "Club") "Sending" false
  k_Sending_Sending : KitF K (some "Sending") "Sending" true
  k_None_Sending : KitF K none "Sending" false
  k_NoRow_NoRow : KitF K (some "NoRow") "NoRow" true
  x_NoRow : ExcC K (He.ga K "NoRow")
  m_NoRow_WordError : ExmF K "NoRow" "WordError" true

end BW


set_option Elab.async false
set_option linter.all false
set_option maxRecDepth 100000
set_option maxHeartbeats 0
namespace BW
open PySem PySem.Spec PyProof.Rows L2
def dd0 : He.DefD := ⟨("back_of", none), "back_of", "back_of", defArgs s_words_back_of, defBody s_words_back_of, defScope s_words_back_of, [], []⟩
def dd1 : He.DefD := ⟨("are_letters", none), "are_letters", "are_letters", defArgs s_words_are_letters, defBody s_words_are_letters, defScope s_words_are_letters, [], []⟩
def dd2 : He.DefD := ⟨("is_word", none), "is_word", "is_word", defArgs s_words_is_word, defBody s_words_is_word, defScope s_words_is_word, [], []⟩
def dd3 : He.DefD := ⟨("need_word_words", none), "need_word", "need_word", defArgs s_words_need_word, defBody s_words_need_word, defScope s_words_need_word, [], []⟩
def dd4 : He.DefD := ⟨("put_together", none), "put_together", "put_together", defArgs s_words_put_together, defBody s_words_put_together, defScope s_words_put_together, [], []⟩
def dd5 : He.DefD := ⟨("back", none), "back", "back", defArgs s_words_back, defBody s_words_back, defScope s_words_back, [], []⟩
def dd6 : He.DefD := ⟨("is_whole", none), "is_whole", "is_whole", defArgs s_words_is_whole, defBody s_words_is_whole, defScope s_words_is_whole, [], []⟩
def dd7 : He.DefD := ⟨("is_road", none), "is_road", "is_road", defArgs s_webs_is_road, defBody s_webs_is_road, defScope s_webs_is_road, [], []⟩
def dd8 : He.DefD := ⟨("steps_of", none), "steps_of", "steps_of", defArgs s_webs_steps_of, defBody s_webs_steps_of, defScope s_webs_steps_of, [], []⟩
def dd9 : He.DefD := ⟨("Web", some "__init__"), "__init__", "Web.__init__", defArgs s_webs_Web___init__, defBody s_webs_Web___init__, defScope s_webs_Web___init__, [], []⟩
def dd10 : He.DefD := ⟨("Web", some "many"), "many", "Web.many", defArgs s_webs_Web_many, defBody s_webs_Web_many, defScope s_webs_Web_many, [], []⟩
def dd11 : He.DefD := ⟨("Web", some "roads"), "roads", "Web.roads", defArgs s_webs_Web_roads, defBody s_webs_Web_roads, defScope s_webs_Web_roads, [], []⟩
def dd12 : He.DefD := ⟨("Web", some "step"), "step", "Web.step", defArgs s_webs_Web_step, defBody s_webs_Web_step, defScope s_webs_Web_step, [], []⟩
def dd13 : He.DefD := ⟨("Web", some "plain"), "plain", "Web.plain", defArgs s_webs_Web_plain, defBody s_webs_Web_plain, defScope s_webs_Web_plain, [], []⟩
def dd14 : He.DefD := ⟨("trimmed", none), "trimmed", "trimmed", defArgs s_webs_trimmed, defBody s_webs_trimmed, defScope s_webs_trimmed, [], []⟩
def dd15 : He.DefD := ⟨("is_held", none), "is_held", "is_held", defArgs s_webs_is_held, defBody s_webs_is_held, defScope s_webs_is_held, [], []⟩
def dd16 : He.DefD := ⟨("come_to", none), "come_to", "come_to", defArgs s_webs_come_to, defBody s_webs_come_to, defScope s_webs_come_to, [], []⟩
def dd17 : He.DefD := ⟨("plain_of", none), "plain_of", "plain_of", defArgs s_webs_plain_of, defBody s_webs_plain_of, defScope s_webs_plain_of, [], []⟩
def dd18 : He.DefD := ⟨("Folding", some "__init__"), "__init__", "Folding.__init__", defArgs s_folding_Folding___init__, defBody s_folding_Folding___init__, defScope s_folding_Folding___init__, [], []⟩
def dd19 : He.DefD := ⟨("Folding", some "head"), "head", "Folding.head", defArgs s_folding_Folding_head, defBody s_folding_Folding_head, defScope s_folding_Folding_head, [], []⟩
def dd20 : He.DefD := ⟨("Folding", some "put"), "put", "Folding.put", defArgs s_folding_Folding_put, defBody s_folding_Folding_put, defScope s_folding_Folding_put, [], []⟩
def dd21 : He.DefD := ⟨("Folding", some "settle"), "settle", "Folding.settle", defArgs s_folding_Folding_settle, defBody s_folding_Folding_settle, defScope s_folding_Folding_settle, [], []⟩
def dd22 : He.DefD := ⟨("Folding", some "unite"), "unite", "Folding.unite", defArgs s_folding_Folding_unite, defBody s_folding_Folding_unite, defScope s_folding_Folding_unite, [], []⟩
def dd23 : He.DefD := ⟨("Folding", some "roads"), "roads", "Folding.roads", defArgs s_folding_Folding_roads, defBody s_folding_Folding_roads, defScope s_folding_Folding_roads, [], []⟩
def dd24 : He.DefD := ⟨("beside", none), "beside", "beside", defArgs s_folding_beside, defBody s_folding_beside, defScope s_folding_beside, [], []⟩
def dd25 : He.DefD := ⟨("led_to", none), "led_to", "led_to", defArgs s_folding_led_to, defBody s_folding_led_to, defScope s_folding_led_to, [], []⟩
def dd26 : He.DefD := ⟨("cut", none), "cut", "cut", defArgs s_folding_cut, defBody s_folding_cut, defScope s_folding_cut, [], []⟩
def dd27 : He.DefD := ⟨("plain_web", none), "plain_web", "plain_web", defArgs s_folding_plain_web, defBody s_folding_plain_web, defScope s_folding_plain_web, [], []⟩
def dd28 : He.DefD := ⟨("folded", none), "folded", "folded", defArgs s_folding_folded, defBody s_folding_folded, defScope s_folding_folded, [], []⟩
def dd29 : He.DefD := ⟨("need_given", none), "need_given", "need_given", defArgs s_folding_need_given, defBody s_folding_need_given, defScope s_folding_need_given, [], []⟩
def dd30 : He.DefD := ⟨("circles", none), "circles", "circles", defArgs s_folding_circles, defBody s_folding_circles, defScope s_folding_circles, [], []⟩
def dd31 : He.DefD := ⟨("web_of", none), "web_of", "web_of", defArgs s_folding_web_of, defBody s_folding_web_of, defScope s_folding_web_of, [], []⟩
def dd32 : He.DefD := ⟨("Club", some "__init__"), "__init__", "Club.__init__", defArgs s_clubrows_Club___init__, defBody s_clubrows_Club___init__, defScope s_clubrows_Club___init__, [], []⟩
def dd33 : He.DefD := ⟨("Club", some "web"), "web", "Club.web", defArgs s_clubrows_Club_web, defBody s_clubrows_Club_web, defScope s_clubrows_Club_web, [], []⟩
def dd34 : He.DefD := ⟨("tree_of", none), "tree_of", "tree_of", defArgs s_fewest_tree_of, defBody s_fewest_tree_of, defScope s_fewest_tree_of, [], []⟩
def dd35 : He.DefD := ⟨("way_to", none), "way_to", "way_to", defArgs s_fewest_way_to, defBody s_fewest_way_to, defScope s_fewest_way_to, [], []⟩
def dd36 : He.DefD := ⟨("ways", none), "ways", "ways", defArgs s_fewest_ways, defBody s_fewest_ways, defScope s_fewest_ways, [], []⟩
def dd37 : He.DefD := ⟨("others", none), "others", "others", defArgs s_fewest_others, defBody s_fewest_others, defScope s_fewest_others, [], []⟩
def dd38 : He.DefD := ⟨("fewest", none), "fewest", "fewest", defArgs s_fewest_fewest, defBody s_fewest_fewest, defScope s_fewest_fewest, [], []⟩
def dd39 : He.DefD := ⟨("has_letters", none), "has_letters", "has_letters", defArgs s_sendings_has_letters, defBody s_sendings_has_letters, defScope s_sendings_has_letters, [], []⟩
def dd40 : He.DefD := ⟨("Sending", some "__init__"), "__init__", "Sending.__init__", defArgs s_sendings_Sending___init__, defBody s_sendings_Sending___init__, defScope s_sendings_Sending___init__, [], []⟩
def dd41 : He.DefD := ⟨("Sending", some "many"), "many", "Sending.many", defArgs s_sendings_Sending_many, defBody s_sendings_Sending_many, defScope s_sendings_Sending_many, [], []⟩
def dd42 : He.DefD := ⟨("Sending", some "image"), "image", "Sending.image", defArgs s_sendings_Sending_image, defBody s_sendings_Sending_image, defScope s_sendings_Sending_image, [], []⟩
def dd43 : He.DefD := ⟨("Sending", some "sent"), "sent", "Sending.sent", defArgs s_sendings_Sending_sent, defBody s_sendings_Sending_sent, defScope s_sendings_Sending_sent, [], []⟩
def dd44 : He.DefD := ⟨("is_name", none), "is_name", "is_name", defArgs s_desk_is_name, defBody s_desk_is_name, defScope s_desk_is_name, [], []⟩
def dd45 : He.DefD := ⟨("word_of_desk", none), "word_of", "word_of", defArgs s_desk_word_of, defBody s_desk_word_of, defScope s_desk_word_of, [], []⟩
def dd46 : He.DefD := ⟨("number_of", none), "number_of", "number_of", defArgs s_desk_number_of, defBody s_desk_number_of, defScope s_desk_number_of, [], []⟩
def dd47 : He.DefD := ⟨("shown", none), "shown", "shown", defArgs s_desk_shown, defBody s_desk_shown, defScope s_desk_shown, [], []⟩
def dd48 : He.DefD := ⟨("all_shown", none), "all_shown", "all_shown", defArgs s_desk_all_shown, defBody s_desk_all_shown, defScope s_desk_all_shown, [], []⟩
def dd49 : He.DefD := ⟨("need_many", none), "need_many", "need_many", defArgs s_desk_need_many, defBody s_desk_need_many, defScope s_desk_need_many, [], []⟩
def dd50 : He.DefD := ⟨("Desk", some "__init__"), "__init__", "Desk.__init__", defArgs s_desk_Desk___init__, defBody s_desk_Desk___init__, defScope s_desk_Desk___init__, [], []⟩
def dd51 : He.DefD := ⟨("Desk", some "keep"), "keep", "Desk.keep", defArgs s_desk_Desk_keep, defBody s_desk_Desk_keep, defScope s_desk_Desk_keep, [], []⟩
def dd52 : He.DefD := ⟨("Desk", some "club"), "club", "Desk.club", defArgs s_desk_Desk_club, defBody s_desk_Desk_club, defScope s_desk_Desk_club, [], []⟩
def dd53 : He.DefD := ⟨("Desk", some "sending"), "sending", "Desk.sending", defArgs s_desk_Desk_sending, defBody s_desk_Desk_sending, defScope s_desk_Desk_sending, [], []⟩
def dd54 : He.DefD := ⟨("Desk", some "say"), "say", "Desk.say", defArgs s_desk_Desk_say, defBody s_desk_Desk_say, defScope s_desk_Desk_say, [], []⟩
def dd55 : He.DefD := ⟨("Desk", some "make"), "make", "Desk.make", defArgs s_desk_Desk_make, defBody s_desk_Desk_make, defScope s_desk_Desk_make, [], []⟩
def dd56 : He.DefD := ⟨("Desk", some "ask_club"), "ask_club", "Desk.ask_club", defArgs s_desk_Desk_ask_club, defBody s_desk_Desk_ask_club, defScope s_desk_Desk_ask_club, [], []⟩
def dd57 : He.DefD := ⟨("Desk", some "ask_sending"), "ask_sending", "Desk.ask_sending", defArgs s_desk_Desk_ask_sending, defBody s_desk_Desk_ask_sending, defScope s_desk_Desk_ask_sending, [], []⟩
def dd58 : He.DefD := ⟨("_law_mix", none), "_law_mix", "_law_mix", defArgs s_law__law_mix, defBody s_law__law_mix, defScope s_law__law_mix, [], []⟩
def dd59 : He.DefD := ⟨("_law_name", none), "_law_name", "_law_name", defArgs s_law__law_name, defBody s_law__law_name, defScope s_law__law_name, [], []⟩
def dd60 : He.DefD := ⟨("_law_is_name", none), "_law_is_name", "_law_is_name", defArgs s_law__law_is_name, defBody s_law__law_is_name, defScope s_law__law_is_name, [], []⟩
def dd61 : He.DefD := ⟨("_law_said", none), "_law_said", "_law_said", defArgs s_law__law_said, defBody s_law__law_said, defScope s_law__law_said, [], []⟩
def dd62 : He.DefD := ⟨("_law_shown", none), "_law_shown", "_law_shown", defArgs s_law__law_shown, defBody s_law__law_shown, defScope s_law__law_shown, [], []⟩
def dd63 : He.DefD := ⟨("law", none), "law", "law", defArgs s_law_law, defBody s_law_law, defScope s_law_law, [], []⟩
def fns : List He.DefD := [dd0, dd1, dd2, dd3, dd4, dd5, dd6, dd7, dd8, dd9, dd10, dd11, dd12, dd13, dd14, dd15, dd16, dd17, dd18, dd19, dd20, dd21, dd22, dd23, dd24, dd25, dd26, dd27, dd28, dd29, dd30, dd31, dd32, dd33, dd34, dd35, dd36, dd37, dd38, dd39, dd40, dd41, dd42, dd43, dd44, dd45, dd46, dd47, dd48, dd49, dd50, dd51, dd52, dd53, dd54, dd55, dd56, dd57, dd58, dd59, dd60, dd61, dd62, dd63]
def fas : List He.Fa := [.glo "WordError", .exc "WordError", .glo "NoWord", .exc "NoWord", .glo "NoWeb", .exc "NoWeb", .glo "NoClub", .exc "NoClub", .glo "NoSending", .exc "NoSending", .glo "NoRow", .exc "NoRow", .glo "TooMany", .exc "TooMany", .free "all", .free "any", .free "bool", .free "enumerate", .free "int", .free "isinstance", .free "len", .free "list", .free "max", .free "min", .free "range", .free "reversed", .free "set", .free "sorted", .free "str", .free "tuple", .str "LETTERS_words" "abcdef", .str "ORDER_words" "aAbBcCdDeEfF", .int "MOST_LETTERS_words" (60), .int "MOST_PLACES" (200), .int "MOST_LOOSE" (2000), .int "MOST_WORDS_folding" (8), .str "SMALL" "abcdefghijklmnopqrstuvwxyz", .str "FIGURES" "0123456789", .int "MOST_LETTERS_desk" (8), .int "MOST_FIGURES" (2), .int "MOST_WORDS_desk" (8), .glo "Web", .cls "Web", .noat "Web" "size", .noat "Web" "steps", .noat "Web" "kept", .glo "Folding", .cls "Folding", .noat "Folding" "heads", .noat "Folding" "steps", .noat "Folding" "waiting", .glo "Club", .cls "Club", .noat "Club" "first_words", .noat "Club" "folded_web", .glo "Sending", .cls "Sending", .noat "Sending" "goal", .noat "Sending" "first_words", .glo "Desk", .cls "Desk", .noat "Desk" "named", .glo "back_of", .glo "are_letters", .glo "is_word", .glo "need_word_words", .glo "put_together", .glo "back", .glo "is_whole", .glo "is_road", .glo "steps_of", .mkr "Web", .meth "Web" "many", .meth "Web" "roads", .meth "Web" "step", .meth "Web" "plain", .glo "trimmed", .glo "is_held", .glo "come_to", .glo "plain_of", .mkr "Folding", .meth "Folding" "head", .meth "Folding" "put", .meth "Folding" "settle", .meth "Folding" "unite", .meth "Folding" "roads", .glo "beside", .glo "led_to", .glo "cut", .glo "plain_web", .glo "folded", .glo "need_given", .glo "circles", .glo "web_of", .mkr "Club", .meth "Club" "web", .glo "tree_of", .glo "way_to", .glo "ways", .glo "others", .glo "fewest", .glo "has_letters", .mkr "Sending", .meth "Sending" "many", .meth "Sending" "image", .meth "Sending" "sent", .glo "is_name", .glo "word_of_desk", .glo "number_of", .glo "shown", .glo "all_shown", .glo "need_many", .mkr "Desk", .meth "Desk" "keep", .meth "Desk" "club", .meth "Desk" "sending", .meth "Desk" "say", .meth "Desk" "make", .meth "Desk" "ask_club", .meth "Desk" "ask_sending", .glo "_law_mix", .glo "_law_name", .glo "_law_is_name", .glo "_law_said", .glo "_law_shown", .glo "law"]
def exs (K : PySem.W.Frag) : List Bool := [glB K, insB K "Club", insB K "Sending", insB K "Web", kitB' K (some "Club") "Club" true, kitB' K (some "Sending") "Club" false, kitB' K none "Club" false, kitB' K (some "Club") "Web" false, kitB' K (some "Sending") "Web" false, kitB' K none "Web" false, kitB' K (some "Club") "Sending" false, kitB' K (some "Sending") "Sending" true, kitB' K none "Sending" false, kitB' K (some "NoRow") "NoRow" true, excB K "NoRow", exmB K "NoRow" "WordError" true]
theorem txt_of {K : PySem.W.Frag} {h : Heap} {mg : Str → Option Value} (X : K.In h) (G : h.Ns mainGlobals mg) (ce : (exs K).all id = true) (c : He.SaysD fas fns K) : Txt K mg where
  e_WordError := excF_of X G (c.fact 0 (f := .glo "WordError") rfl) (c.fact 1 (f := .exc "WordError") rfl)
  e_NoWord := excF_of X G (c.fact 2 (f := .glo "NoWord") rfl) (c.fact 3 (f := .exc "NoWord") rfl)
  e_NoWeb := excF_of X G (c.fact 4 (f := .glo "NoWeb") rfl) (c.fact 5 (f := .exc "NoWeb") rfl)
  e_NoClub := excF_of X G (c.fact 6 (f := .glo "NoClub") rfl) (c.fact 7 (f := .exc "NoClub") rfl)
  e_NoSending := excF_of X G (c.fact 8 (f := .glo "NoSending") rfl) (c.fact 9 (f := .exc "NoSending") rfl)
  e_NoRow := excF_of X G (c.fact 10 (f := .glo "NoRow") rfl) (c.fact 11 (f := .exc "NoRow") rfl)
  e_TooMany := excF_of X G (c.fact 12 (f := .glo "TooMany") rfl) (c.fact 13 (f := .exc "TooMany") rfl)
  b_all := He.free_ok X G (c.fact 14 (f := .free "all") rfl)
  b_any := He.free_ok X G (c.fact 15 (f := .free "any") rfl)
  b_bool := He.free_ok X G (c.fact 16 (f := .free "bool") rfl)
  b_enumerate := He.free_ok X G (c.fact 17 (f := .free "enumerate") rfl)
  b_int := He.free_ok X G (c.fact 18 (f := .free "int") rfl)
  b_isinstance := He.free_ok X G (c.fact 19 (f := .free "isinstance") rfl)
  b_len := He.free_ok X G (c.fact 20 (f := .free "len") rfl)
  b_list := He.free_ok X G (c.fact 21 (f := .free "list") rfl)
  b_max := He.free_ok X G (c.fact 22 (f := .free "max") rfl)
  b_min := He.free_ok X G (c.fact 23 (f := .free "min") rfl)
  b_range := He.free_ok X G (c.fact 24 (f := .free "range") rfl)
  b_reversed := He.free_ok X G (c.fact 25 (f := .free "reversed") rfl)
  b_set := He.free_ok X G (c.fact 26 (f := .free "set") rfl)
  b_sorted := He.free_ok X G (c.fact 27 (f := .free "sorted") rfl)
  b_str := He.free_ok X G (c.fact 28 (f := .free "str") rfl)
  b_tuple := He.free_ok X G (c.fact 29 (f := .free "tuple") rfl)
  g_words_LETTERS := He.str_ok X G (c.fact 30 (f := .str "LETTERS_words" "abcdef") rfl)
  g_words_ORDER := He.str_ok X G (c.fact 31 (f := .str "ORDER_words" "aAbBcCdDeEfF") rfl)
  g_words_MOST_LETTERS := He.int_ok X G (c.fact 32 (f := .int "MOST_LETTERS_words" (60)) rfl)
  g_webs_MOST_PLACES := He.int_ok X G (c.fact 33 (f := .int "MOST_PLACES" (200)) rfl)
  g_folding_MOST_LOOSE := He.int_ok X G (c.fact 34 (f := .int "MOST_LOOSE" (2000)) rfl)
  g_folding_MOST_WORDS := He.int_ok X G (c.fact 35 (f := .int "MOST_WORDS_folding" (8)) rfl)
  g_desk_SMALL := He.str_ok X G (c.fact 36 (f := .str "SMALL" "abcdefghijklmnopqrstuvwxyz") rfl)
  g_desk_FIGURES := He.str_ok X G (c.fact 37 (f := .str "FIGURES" "0123456789") rfl)
  g_desk_MOST_LETTERS := He.int_ok X G (c.fact 38 (f := .int "MOST_LETTERS_desk" (8)) rfl)
  g_desk_MOST_FIGURES := He.int_ok X G (c.fact 39 (f := .int "MOST_FIGURES" (2)) rfl)
  g_desk_MOST_WORDS := He.int_ok X G (c.fact 40 (f := .int "MOST_WORDS_desk" (8)) rfl)
  c_Web := clsF_of X G (c.fact 41 (f := .glo "Web") rfl) (c.fact 42 (f := .cls "Web") rfl)
  n_Web_size := He.noat_ok (c.fact 43 (f := .noat "Web" "size") rfl)
  n_Web_steps := He.noat_ok (c.fact 44 (f := .noat "Web" "steps") rfl)
  n_Web_kept := He.noat_ok (c.fact 45 (f := .noat "Web" "kept") rfl)
  c_Folding := clsF_of X G (c.fact 46 (f := .glo "Folding") rfl) (c.fact 47 (f := .cls "Folding") rfl)
  n_Folding_heads := He.noat_ok (c.fact 48 (f := .noat "Folding" "heads") rfl)
  n_Folding_steps := He.noat_ok (c.fact 49 (f := .noat "Folding" "steps") rfl)
  n_Folding_waiting := He.noat_ok (c.fact 50 (f := .noat "Folding" "waiting") rfl)
  c_Club := clsF_of X G (c.fact 51 (f := .glo "Club") rfl) (c.fact 52 (f := .cls "Club") rfl)
  n_Club_first_words := He.noat_ok (c.fact 53 (f := .noat "Club" "first_words") rfl)
  n_Club_folded_web := He.noat_ok (c.fact 54 (f := .noat "Club" "folded_web") rfl)
  c_Sending := clsF_of X G (c.fact 55 (f := .glo "Sending") rfl) (c.fact 56 (f := .cls "Sending") rfl)
  n_Sending_goal := He.noat_ok (c.fact 57 (f := .noat "Sending" "goal") rfl)
  n_Sending_first_words := He.noat_ok (c.fact 58 (f := .noat "Sending" "first_words") rfl)
  c_Desk := clsF_of X G (c.fact 59 (f := .glo "Desk") rfl) (c.fact 60 (f := .cls "Desk") rfl)
  n_Desk_named := He.noat_ok (c.fact 61 (f := .noat "Desk" "named") rfl)
  f_words_back_of := defIn_of X G (c.fact 62 (f := .glo "back_of") rfl) (c.def_ 0 (d := dd0) rfl)
  f_words_are_letters := defIn_of X G (c.fact 63 (f := .glo "are_letters") rfl) (c.def_ 1 (d := dd1) rfl)
  f_words_is_word := defIn_of X G (c.fact 64 (f := .glo "is_word") rfl) (c.def_ 2 (d := dd2) rfl)
  f_words_need_word := defIn_of X G (c.fact 65 (f := .glo "need_word_words") rfl) (c.def_ 3 (d := dd3) rfl)
  f_words_put_together := defIn_of X G (c.fact 66 (f := .glo "put_together") rfl) (c.def_ 4 (d := dd4) rfl)
  f_words_back := defIn_of X G (c.fact 67 (f := .glo "back") rfl) (c.def_ 5 (d := dd5) rfl)
  f_words_is_whole := defIn_of X G (c.fact 68 (f := .glo "is_whole") rfl) (c.def_ 6 (d := dd6) rfl)
  f_webs_is_road := defIn_of X G (c.fact 69 (f := .glo "is_road") rfl) (c.def_ 7 (d := dd7) rfl)
  f_webs_steps_of := defIn_of X G (c.fact 70 (f := .glo "steps_of") rfl) (c.def_ 8 (d := dd8) rfl)
  f_webs_Web___init__ := initIn_of (c.fact 71 (f := .mkr "Web") rfl) (c.def_ 9 (d := dd9) rfl)
  f_webs_Web_many := methIn_of (c.fact 72 (f := .meth "Web" "many") rfl) (c.def_ 10 (d := dd10) rfl)
  f_webs_Web_roads := methIn_of (c.fact 73 (f := .meth "Web" "roads") rfl) (c.def_ 11 (d := dd11) rfl)
  f_webs_Web_step := methIn_of (c.fact 74 (f := .meth "Web" "step") rfl) (c.def_ 12 (d := dd12) rfl)
  f_webs_Web_plain := methIn_of (c.fact 75 (f := .meth "Web" "plain") rfl) (c.def_ 13 (d := dd13) rfl)
  f_webs_trimmed := defIn_of X G (c.fact 76 (f := .glo "trimmed") rfl) (c.def_ 14 (d := dd14) rfl)
  f_webs_is_held := defIn_of X G (c.fact 77 (f := .glo "is_held") rfl) (c.def_ 15 (d := dd15) rfl)
  f_webs_come_to := defIn_of X G (c.fact 78 (f := .glo "come_to") rfl) (c.def_ 16 (d := dd16) rfl)
  f_webs_plain_of := defIn_of X G (c.fact 79 (f := .glo "plain_of") rfl) (c.def_ 17 (d := dd17) rfl)
  f_folding_Folding___init__ := initIn_of (c.fact 80 (f := .mkr "Folding") rfl) (c.def_ 18 (d := dd18) rfl)
  f_folding_Folding_head := methIn_of (c.fact 81 (f := .meth "Folding" "head") rfl) (c.def_ 19 (d := dd19) rfl)
  f_folding_Folding_put := methIn_of (c.fact 82 (f := .meth "Folding" "put") rfl) (c.def_ 20 (d := dd20) rfl)
  f_folding_Folding_settle := methIn_of (c.fact 83 (f := .meth "Folding" "settle") rfl) (c.def_ 21 (d := dd21) rfl)
  f_folding_Folding_unite := methIn_of (c.fact 84 (f := .meth "Folding" "unite") rfl) (c.def_ 22 (d := dd22) rfl)
  f_folding_Folding_roads := methIn_of (c.fact 85 (f := .meth "Folding" "roads") rfl) (c.def_ 23 (d := dd23) rfl)
  f_folding_beside := defIn_of X G (c.fact 86 (f := .glo "beside") rfl) (c.def_ 24 (d := dd24) rfl)
  f_folding_led_to := defIn_of X G (c.fact 87 (f := .glo "led_to") rfl) (c.def_ 25 (d := dd25) rfl)
  f_folding_cut := defIn_of X G (c.fact 88 (f := .glo "cut") rfl) (c.def_ 26 (d := dd26) rfl)
  f_folding_plain_web := defIn_of X G (c.fact 89 (f := .glo "plain_web") rfl) (c.def_ 27 (d := dd27) rfl)
  f_folding_folded := defIn_of X G (c.fact 90 (f := .glo "folded") rfl) (c.def_ 28 (d := dd28) rfl)
  f_folding_need_given := defIn_of X G (c.fact 91 (f := .glo "need_given") rfl) (c.def_ 29 (d := dd29) rfl)
  f_folding_circles := defIn_of X G (c.fact 92 (f := .glo "circles") rfl) (c.def_ 30 (d := dd30) rfl)
  f_folding_web_of := defIn_of X G (c.fact 93 (f := .glo "web_of") rfl) (c.def_ 31 (d := dd31) rfl)
  f_clubrows_Club___init__ := initIn_of (c.fact 94 (f := .mkr "Club") rfl) (c.def_ 32 (d := dd32) rfl)
  f_clubrows_Club_web := methIn_of (c.fact 95 (f := .meth "Club" "web") rfl) (c.def_ 33 (d := dd33) rfl)
  f_fewest_tree_of := defIn_of X G (c.fact 96 (f := .glo "tree_of") rfl) (c.def_ 34 (d := dd34) rfl)
  f_fewest_way_to := defIn_of X G (c.fact 97 (f := .glo "way_to") rfl) (c.def_ 35 (d := dd35) rfl)
  f_fewest_ways := defIn_of X G (c.fact 98 (f := .glo "ways") rfl) (c.def_ 36 (d := dd36) rfl)
  f_fewest_others := defIn_of X G (c.fact 99 (f := .glo "others") rfl) (c.def_ 37 (d := dd37) rfl)
  f_fewest_fewest := defIn_of X G (c.fact 100 (f := .glo "fewest") rfl) (c.def_ 38 (d := dd38) rfl)
  f_sendings_has_letters := defIn_of X G (c.fact 101 (f := .glo "has_letters") rfl) (c.def_ 39 (d := dd39) rfl)
  f_sendings_Sending___init__ := initIn_of (c.fact 102 (f := .mkr "Sending") rfl) (c.def_ 40 (d := dd40) rfl)
  f_sendings_Sending_many := methIn_of (c.fact 103 (f := .meth "Sending" "many") rfl) (c.def_ 41 (d := dd41) rfl)
  f_sendings_Sending_image := methIn_of (c.fact 104 (f := .meth "Sending" "image") rfl) (c.def_ 42 (d := dd42) rfl)
  f_sendings_Sending_sent := methIn_of (c.fact 105 (f := .meth "Sending" "sent") rfl) (c.def_ 43 (d := dd43) rfl)
  f_desk_is_name := defIn_of X G (c.fact 106 (f := .glo "is_name") rfl) (c.def_ 44 (d := dd44) rfl)
  f_desk_word_of := defIn_of X G (c.fact 107 (f := .glo "word_of_desk") rfl) (c.def_ 45 (d := dd45) rfl)
  f_desk_number_of := defIn_of X G (c.fact 108 (f := .glo "number_of") rfl) (c.def_ 46 (d := dd46) rfl)
  f_desk_shown := defIn_of X G (c.fact 109 (f := .glo "shown") rfl) (c.def_ 47 (d := dd47) rfl)
  f_desk_all_shown := defIn_of X G (c.fact 110 (f := .glo "all_shown") rfl) (c.def_ 48 (d := dd48) rfl)
  f_desk_need_many := defIn_of X G (c.fact 111 (f := .glo "need_many") rfl) (c.def_ 49 (d := dd49) rfl)
  f_desk_Desk___init__ := initIn_of (c.fact 112 (f := .mkr "Desk") rfl) (c.def_ 50 (d := dd50) rfl)
  f_desk_Desk_keep := methIn_of (c.fact 113 (f := .meth "Desk" "keep") rfl) (c.def_ 51 (d := dd51) rfl)
  f_desk_Desk_club := methIn_of (c.fact 114 (f := .meth "Desk" "club") rfl) (c.def_ 52 (d := dd52) rfl)
  f_desk_Desk_sending := methIn_of (c.fact 115 (f := .meth "Desk" "sending") rfl) (c.def_ 53 (d := dd53) rfl)
  f_desk_Desk_say := methIn_of (c.fact 116 (f := .meth "Desk" "say") rfl) (c.def_ 54 (d := dd54) rfl)
  f_desk_Desk_make := methIn_of (c.fact 117 (f := .meth "Desk" "make") rfl) (c.def_ 55 (d := dd55) rfl)
  f_desk_Desk_ask_club := methIn_of (c.fact 118 (f := .meth "Desk" "ask_club") rfl) (c.def_ 56 (d := dd56) rfl)
  f_desk_Desk_ask_sending := methIn_of (c.fact 119 (f := .meth "Desk" "ask_sending") rfl) (c.def_ 57 (d := dd57) rfl)
  f_law__law_mix := defIn_of X G (c.fact 120 (f := .glo "_law_mix") rfl) (c.def_ 58 (d := dd58) rfl)
  f_law__law_name := defIn_of X G (c.fact 121 (f := .glo "_law_name") rfl) (c.def_ 59 (d := dd59) rfl)
  f_law__law_is_name := defIn_of X G (c.fact 122 (f := .glo "_law_is_name") rfl) (c.def_ 60 (d := dd60) rfl)
  f_law__law_said := defIn_of X G (c.fact 123 (f := .glo "_law_said") rfl) (c.def_ 61 (d := dd61) rfl)
  f_law__law_shown := defIn_of X G (c.fact 124 (f := .glo "_law_shown") rfl) (c.def_ 62 (d := dd62) rfl)
  f_law_law := defIn_of X G (c.fact 125 (f := .glo "law") rfl) (c.def_ 63 (d := dd63) rfl)
  x_gl := gl_of (exs_at ce 0 rfl)
  i_Club := ins_of (exs_at ce 1 rfl)
  i_Sending := ins_of (exs_at ce 2 rfl)
  i_Web := ins_of (exs_at ce 3 rfl)
  k_Club_Club := kit_of' (exs_at ce 4 rfl)
  k_Sending_Club := kit_of' (exs_at ce 5 rfl)
  k_None_Club := kit_of' (exs_at ce 6 rfl)
  k_Club_Web := kit_of' (exs_at ce 7 rfl)
  k_Sending_Web := kit_of' (exs_at ce 8 rfl)
  k_None_Web := kit_of' (exs_at ce 9 rfl)
  k_Club_Sending := kit_of' (exs_at ce 10 rfl)
  k_Sending_Sending := kit_of' (exs_at ce 11 rfl)
  k_None_Sending := kit_of' (exs_at ce 12 rfl)
  k_NoRow_NoRow := kit_of' (exs_at ce 13 rfl)
  x_NoRow := excC_of (gl_of (exs_at ce 0 rfl)) (exs_at ce 14 rfl)
  m_NoRow_WordError := exm_of' (exs_at ce 15 rfl)
def nm0 : List PySem.Str := ["_wall", "WordError", "NoWord", "NoWeb", "NoClub", "NoSending", "NoRow", "NoPlace", "TooMany", "LETTERS_words", "ORDER_words", "MOST_LETTERS_words", "back_of", "are_letters", "is_word", "need_word", "need_word_words", "put_together", "times", "back", "is_whole", "tail_length", "key_of", "is_before", "in_order", "MOST_PLACES", "is_road", "steps_of", "Web", "belongs"]
def nm1 : List PySem.Str := ["trimmed", "is_held", "come_to", "plain_of", "MOST_LOOSE", "MOST_WORDS_folding", "Folding", "beside", "led_to", "cut", "plain_web", "folded", "need_given", "circles", "web_of", "MOST_LONG", "note_times", "note_back", "word_pairs", "Noted", "Club", "tree_of", "way_to", "ways", "others", "fewest", "row_by", "same", "within", "common"]
def nm2 : List PySem.Str := ["joined", "moved", "LETTERS_copies", "walked", "least_of", "need_word_copies", "least", "are_letters_told", "copies", "parts", "root", "ORDER_keeping", "keeps", "ends_at", "Core", "keepers", "MOST_WORDS_movers", "need_row", "moved_by", "goes_with", "first_mover", "along_powers", "all_moved", "tried_for", "mover", "has_letters", "Sending", "written", "word_of", "word_of_undoing"]
def nm3 : List PySem.Str := ["comes_from", "undone", "SMALL", "FIGURES", "MOST_LETTERS_desk", "MOST_FIGURES", "MOST_WORDS_desk", "is_name", "word_of_desk", "number_of", "shown", "all_shown", "pairs_shown", "yes_or_no", "need_many", "Desk", "_law_mix", "_law_name", "_law_is_name", "_law_said", "_law_shown"]
def names : List PySem.Str := nm0 ++ nm1 ++ nm2 ++ nm3

abbrev R : PySem.W.OpenRow := PySem.W.OpenLaw.row PySem.Challenge.rw_backwords_k96_two_desks
def ad0 : List Addr := [31, 44, 56, 68, 80, 92, 116, 264, 347, 538, 839, 1001, 125, 130, 135, 142, 149, 161, 168, 199, 206, 280, 287, 294, 299, 358, 365, 370, 375, 380]
def ad1 : List Addr := [385, 392, 399, 549, 556, 561, 568, 573, 786, 872, 879, 884, 891, 896, 915, 1012, 1017, 1022, 1029, 1036, 1043, 30, 43, 55, 67, 79, 91, 115, 263, 346]
def ad2 : List Addr := [537, 838, 1000, 124, 129, 134, 141, 148, 160, 167, 198, 205, 279, 286, 293, 298, 357, 364, 369, 374, 379, 384, 391, 398, 548, 555, 560, 567, 572, 785]
def ad3 : List Addr := [871, 878, 883, 890, 895, 914, 1011, 1016, 1021, 1028, 1035, 1042, 218, 225, 232, 239, 261, 311, 318, 325, 332, 339, 344, 500, 514, 798, 812, 826, 831, 929]
def ad4 : List Addr := [936, 943, 957, 962, 967, 981, 988, 217, 224, 231, 238, 260, 310, 317, 324, 331, 338, 343, 499, 513, 797, 811, 825, 830, 928, 935, 942, 956, 961, 966]
def ad5 : List Addr := [980, 987]
def ads : List Addr := mainGlobals :: (ad0 ++ ad1 ++ ad2 ++ ad3 ++ ad4 ++ ad5)
abbrev hk : PySem.W.Hook := hookB ads exs fas fns
def ob (s : PySem.W.SharedT) : Bool × He.AlD := obsB ads exs fas fns (HandSHeadRun.getT s)
theorem ob_eq (s : PySem.W.SharedT) : ob s = hk.obs s.abs := obsB_eq (HandSHeadRun.getT_eq s)
theorem run (w : World) : HandSHeadRun.RunEq R (PySem.W.view R.prog [130]) hk ob 60000 names w := by
  intro os
  kernel_rfl
end BW


set_option Elab.async false
set_option linter.all false
set_option maxRecDepth 100000
set_option maxHeartbeats 4000000
namespace BW
open PySem PySem.Spec PyProof.Rows L2 BwR BwE BwD BwS
section
variable {P : Program} {w : World} {K : PySem.W.Frag} {mg : Str → Option Value} {base : Heap}
theorem occ_letter (x : L) : ∃ rest, Builtin.Str.occurrences oS (lS x) 0 oS.length 1 = x.val :: rest := by
  have h : (Builtin.Str.occurrences oS (lS x) 0 oS.length 1).head? = some x.val := by revert x; decide +kernel
  cases e : Builtin.Str.occurrences oS (lS x) 0 oS.length 1 with
  | nil => rw [e] at h; cases h
  | cons i r =>
    rw [e] at h
    cases h
    exact ⟨r, rfl⟩
theorem at_order (x : L) : oS.cps.toList[x.val]? = some (cp x) := by
  revert x; decide
/-! back_of -/
def sp_back_of : Sp := fun vs H Q _ => ∃ x : L, vs = [.str (lS x)] ∧ Q (.str (lS (bk x))) H
theorem sc_back_of : FnScope ["letter", "at"] ["letter"] (defScope s_words_back_of) := ⟨rfl, rfl, rfl, by decide +kernel, rfl, by decide +kernel, by decide +kernel⟩
theorem ok_back_of (T : Txt K mg) : Ok P w K mg base 1 (n_words_back_of) ["letter"] sp_back_of := by
  refine ok_of T.f_words_back_of sc_back_of (fun _ _ _ _ _ _ us hl => match us, hl with | [_], _ => rfl) (fun vs H Q E h => ?_) (fun f cdv A outer s H vs Q E hr h => ?_)
  · obtain ⟨x, rfl, _⟩ := h
    rfl
  · obtain ⟨x, rfl, k⟩ := h
    refine ⟨_, pss_cons (ps_set (i := 1) sc_back_of.nd rfl (.inl rfl) (pe_bm PySem.F.plainAttrs_str PySem.F.slot_str_index PySem.F.type_str_index mt_sindex (pe_gs T.g_words_ORDER) (pa_cons (pv 0) pa_nil)))
      (pss_one (ps_ret (pe_ix ix_str (pe_gs T.g_words_ORDER) (pe_op op_sub (pe_op op_add (pv 1) pe_int) (pe_op op_mul pe_int (pe_op op_mod (pv 1) pe_int))) (fun _ _ => rfl)))), ?_⟩
    obtain ⟨rest, ho⟩ := occ_letter x
    refine ⟨rfl, _, rfl, oS, lS x, x.val, rest, rfl, rfl, ho, ?_⟩
    refine ⟨_, rfl, _, _, rfl, rfl, _, rfl, _, _, rfl, rfl, (by show (0 : Int) < 2; decide), _, _, rfl, rfl, .inl ⟨by decide, by decide⟩, _, _, rfl, rfl, oS, _, cp (bk x), rfl, rfl, (by decide), ?_, k⟩
    have e : (x.val : Int) + 1 - 2 * ((x.val : Int) % 2) = ((bk x).val : Int) := by
      unfold bk
      by_cases hx : x.val % 2 = 0
      · simp only [hx, if_true]; omega
      · simp only [hx, if_false]; omega
    show atI oS.cps.toList _ = _
    rw [e]
    exact atI_nat (at_order (bk x))
/-! are_letters -/
def inO (c : Nat) : Bool := decide (c ∈ oS.cps.toList)
def areL (l : List Nat) (m : Int) : Bool := decide ((l.length : Int) ≤ m) && l.all inO
/-- no text -/
def NoTy (K : PySem.W.Frag) (v : V) (H : Hp) (c : String) : Prop := ∃ t, TyX K H v t ∧ PySem.W.kitOne K t (.type c) = some false
def sp_are_letters (K : PySem.W.Frag) : Sp := fun vs H Q _ =>
  (∃ l m, vs = [.str (tS l), .int m] ∧ l.length ≤ 16000000 ∧ ∀ H', Ext H H' → Q (.bl (areL l m)) H') ∨
  (∃ v m, vs = [v, m] ∧ NoTy K v H "str" ∧ Q (.bl false) H)
theorem sc_are_letters : FnScope ["thing", "most", "letter"] ["thing", "most"] (defScope s_words_are_letters) := ⟨rfl, rfl, rfl, by decide +kernel, rfl, by decide +kernel, by decide +kernel⟩
theorem cps_tS (l : List Nat) : (tS l).cps.toList = l := by simp
theorem ok_are_letters (T : Txt K mg) : Ok P w K mg base 1 (n_words_are_letters) ["thing", "most"] (sp_are_letters K) := by
  refine ok_of T.f_words_are_letters sc_are_letters (fun _ _ _ _ _ _ us hl => match us, hl with | [_, _], _ => rfl) (fun vs H Q E h => ?_) (fun f cdv A outer s H vs Q E hr h => ?_)
  · rcases h with ⟨l, m, rfl, _⟩ | ⟨v, m, rfl, _⟩ <;> rfl
  · have hu := hu_of hr
    refine ⟨_, pss_one (ps_ret (pe_and (pe_callB call_isi (by rfl) T.b_isinstance (by decide +kernel) (pa_cons (pv 0) (pa_cons (pe_bltn (v := .ty "str") (u := .type "str") (by rfl) T.b_str rfl rfl) pa_nil)))
      (pe_and (pe_cmp (pc_le (pe_callB call_len_str (by rfl) T.b_len PySem.boot_len (pa_cons (pv 0) pa_nil)) (pv 1)))
        (pe_one (pe_callB (cr_all rfl) (by rfl) T.b_all (by decide +kernel) (pa_cons
          (pe_lc (own := [("letter", 2)]) (g := gName 2) (tt := tYes) rfl sc_are_letters.nd (pi_str (pv 0)) (blkOk_by (N := ["thing", "most", "letter"]) (sc := defScope s_words_are_letters) (by decide +kernel))
            (fun _ _ _ _ _ => pg_name (i := 2) sc_are_letters.nd rfl (Or.inl rfl)) (fun _ _ _ _ _ => pts_nil) (fun _ _ _ _ _ => pe_cmpR op_in_sign (pv 2) (pe_gs T.g_words_ORDER) rfl)) pa_nil)))))), ?_⟩
    rcases h with ⟨l, m, rfl, hl, k⟩ | ⟨v, m, rfl, ⟨t, ty, e⟩, k⟩
    · have hl2 : l.length ≤ sizeLine := big_of hl
      refine ⟨_, rfl, _, _, _, _, true, rfl, .ty "str", .base (.str _), kit_ty (by decide +kernel), true, rfl, _, rfl, tS l, rfl, by rw [tS_len]; exact hl2, _, rfl, _, _, rfl, rfl, decide ((l.length : Int) ≤ m), by rw [tS_len], ?_⟩
      by_cases hm : (l.length : Int) ≤ m
      · rw [if_pos (by simpa using hm)]
        refine ⟨_, rfl, _, rfl, fun D hD => lc_all walk_str (l.map fun c => V.bl (inO c)) (by simp) hD (by simpa using hl2) (fun _ _ => True.intro) (fun i r x H1 H2 Q' hr x1 y hq => ?_) (fun H1 x1 hd => ?_)⟩
        · obtain ⟨rfl, c, hc, rfl⟩ := y
          have e : r = V.bl (inO c) := by
            have hc' : l[i]? = some c := by simpa using hc
            rw [List.getElem?_map, hc'] at hr
            exact (Option.some.inj hr).symm
          refine ⟨rfl, _, rfl, c, oS, rfl, rfl, ?_⟩
          rw [e] at hq
          exact hq _ Ext.rfl'
        · refine ⟨D, l.map inO, rfl, SqL.of (by rw [hd, List.map_map]; rfl), ?_⟩
          have e : areL l m = (l.map inO).all id := by simp [areL, hm]
          rw [← e]
          exact k _ x1
      · rw [if_neg (by simpa using hm)]
        have e : areL l m = false := by simp [areL, hm]
        rw [← e]
        exact k _ Ext.rfl'
    · exact ⟨_, rfl, _, _, _, _, false, rfl, .ty "str", ty, e, false, rfl, k⟩
/-! is_word -/
def adj (u : List L) (i : Nat) : Bool := decide (u[i + 1]? = u[i]?.map bk)
def red (u : List L) : Bool := !(List.range (u.length - 1)).any (adj u)
theorem inO_cp (x : L) : inO (cp x) = true := by revert x; decide
theorem areL_w (u : List L) (m : Int) : areL (u.map cp) m = decide ((u.length : Int) ≤ m) := by
  have h : (u.map cp).all inO = true := by
    rw [List.all_eq_true]
    intro c hc
    obtain ⟨x, _, rfl⟩ := List.mem_map.mp hc
    exact inO_cp x
  simp only [areL, h, List.length_map, Bool.and_true]
def IsW (K : PySem.W.Frag) (H : Hp) (v : V) (b : Bool) : Prop :=
  (∃ u : List L, v = .str (wS u) ∧ u.length ≤ 16000000 ∧ b = (decide (u.length ≤ 60) && red u)) ∨ (∃ l, v = .str (tS l) ∧ l.length ≤ 16000000 ∧ areL l 60 = false ∧ b = false) ∨ (NoTy K v H "str" ∧ b = false)
def sp_is_word (K : PySem.W.Frag) : Sp := fun vs H Q _ => ∃ v b, vs = [v] ∧ IsW K H v b ∧ ∀ H', Ext H H' → Q (.bl b) H'
theorem sc_is_word : FnScope ["thing", "at", "letter"] ["thing"] (defScope s_words_is_word) := ⟨rfl, rfl, rfl, by decide +kernel, rfl, by decide +kernel, by decide +kernel⟩
theorem cut_last (u : List L) : cutS (wS u) none (some (-1)) = wS u.dropLast := by
  unfold cutS
  have e : HT.sIx (wS u).length (wS u).length (some (-1)) = u.length - 1 := by
    rw [wS_len]
    show ((-1 : Int) + (u.length : Int)).toNat = _
    omega
  rw [e, HT.sIx_none, List.dropLast_eq_take]
  simp [List.map_take]
theorem cp_eq (x y : L) : decide (V.str (lS x) = V.str (lS y)) = decide (x = y) := by
  by_cases h : x = y
  · subst h; simp
  · have : cp x ≠ cp y := fun e => h (cp_inj e)
    simp [h, this]
theorem w_at {u : List L} {i : Nat} {x : L} (h : u[i]? = some x) : (wS u).cps[i]? = some (cp x) := by simp [h]
theorem w_at_inv {u : List L} {i : Nat} {c : Nat} (h : (wS u).cps[i]? = some c) : ∃ x, u[i]? = some x ∧ c = cp x := by
  simp only [List.getElem?_toArray, List.getElem?_map, Option.map_eq_some_iff] at h
  obtain ⟨x, h, rfl⟩ := h
  exact ⟨x, h, rfl⟩
theorem ok_is_word (T : Txt K mg) : Ok P w K mg base 2 (n_words_is_word) ["thing"] (sp_is_word K) := by
  refine ok_of T.f_words_is_word sc_is_word (fun _ _ _ _ _ _ us hl => match us, hl with | [_], _ => rfl) (fun vs H Q E h => ?_) (fun f cdv A outer s H vs Q E hr h => ?_)
  · obtain ⟨v, b, rfl, _⟩ := h
    rfl
  · have hu := hu_of hr
    refine ⟨_, pss_cons (ps_if (pt_not (pt_val (pe_ok (ok_are_letters T) hr passL (pa_cons (pv 0) (pa_cons (pe_gi T.g_words_MOST_LETTERS) pa_nil))))) (pss_one (ps_ret pe_bl)) pss_nil) (pss_one (ps_ret (pe_not (pe_callB (cr_any rfl) (by rfl) T.b_any (by decide +kernel) (pa_cons
      (pe_lc (own := [("at", 1), ("letter", 2)]) (g := gTup K 2 (gCons (gName 1) (gCons (gName 2) gNil))) (tt := tYes) rfl sc_is_word.nd (pi_enumS (by rfl) T.b_enumerate (pa_cons (pe_slice sl_str (pv 0) po_none (po_some (pe_un un_neg pe_int))) pa_nil)) (blkOk_by (N := ["thing", "at", "letter"]) (sc := defScope s_words_is_word) (by decide +kernel))
        (fun _ _ _ _ _ => pg_tup rfl (pgs_cons (pg_name (i := 1) sc_is_word.nd rfl (Or.inl rfl)) (pgs_cons (pg_name (i := 2) sc_is_word.nd rfl (Or.inl rfl)) pgs_nil))) (fun _ _ _ _ _ => pts_nil)
        (fun _ _ _ _ _ => pe_cmpR op_eq (pe_ix ix_str (pv 0) (pe_op op_add (pv 1) pe_int) (fun _ _ => rfl)) (pe_ok (ok_back_of T) (hr.mono (by decide)) passL (pa_cons (pv 2) pa_nil)) (nomark _))) pa_nil))))), ?_⟩
    obtain ⟨v, b, rfl, hw, k⟩ := h
    rcases hw with ⟨u, rfl, hl, rfl⟩ | ⟨l, rfl, hl, hb, rfl⟩ | ⟨hn, rfl⟩
    · refine ⟨_, rfl, .inl ⟨u.map cp, 60, rfl, by simpa using hl, fun H1 x1 => ⟨_, rfl, ?_⟩⟩⟩
      rw [areL_w]
      by_cases hm : u.length ≤ 60
      · have hm' : decide ((u.length : Int) ≤ 60) = true := by simp; omega
        rw [hm']
        refine ⟨_, rfl, _, rfl, _, rfl, wS u, rfl, by rw [wS_len]; exact big_of hl, _, rfl, fun D hD => ?_⟩
        rw [cut_last]
        refine lc_all walk_enumS ((List.range (u.length - 1)).map fun i => V.bl (adj u i)) (by simp) hD (by have := big_of hl; simp; omega) (fun _ _ => True.intro) (fun i r x H2 H3 Q' hr x2 y hq => ?_) (fun H2 x2 hd => ?_)
        · obtain ⟨Tp, a, c, rfl, hT, rfl, ha, hc⟩ := y
          cases ha
          rw [Option.map_eq_some_iff] at hc
          obtain ⟨c', hc', rfl⟩ := hc
          obtain ⟨x, hx, rfl⟩ := w_at_inv hc'
          have hi : i < u.length - 1 := by
            have := (List.getElem?_eq_some_iff.mp hx).1
            simpa using this
          have hx' : u[i]? = some x := by
            rw [List.dropLast_eq_take, List.getElem?_take, if_pos hi] at hx
            exact hx
          have hi2 : i + 1 < u.length := by omega
          have hx2 : u[i + 1]? = some u[i + 1] := by simp [hi2]
          have e : r = V.bl (decide (V.str (lS u[i + 1]) = V.str (lS (bk x)))) := by
            rw [List.getElem?_map, List.getElem?_range hi] at hr
            rw [cp_eq]
            have h1 := (Option.some.inj hr).symm
            rw [h1]
            show V.bl (decide (u[i + 1]? = u[i]?.map bk)) = _
            rw [hx', hx2]
            simp
          refine ⟨Tp, _, rfl, SqT.of upd_same, rfl, _, _, rfl, _, _, rfl, rfl, rfl, _, rfl, _, rfl, _, _, rfl, rfl, wS u, _, cp u[i + 1], rfl, rfl, by rw [wS_len]; exact big_of hl, ?_, _, rfl, x, rfl, ?_⟩
          · have e3 : ((i : Int) + 1) = ((i + 1 : Nat) : Int) := by omega
            show atI _ ((i : Int) + 1) = _
            rw [e3]
            exact atI_nat (by simp [hi2])
          · rw [e] at hq
            exact ⟨rfl, hq _ (Ext.new hT)⟩
        · refine ⟨D, (List.range (u.length - 1)).map (adj u), rfl, SqL.of (by rw [hd, List.map_map]; rfl), _, rfl, ?_⟩
          have e : (decide (u.length ≤ 60) && red u) = !((List.range (u.length - 1)).map (adj u)).any id := by
            simp [red, hm, List.any_map]
          rw [← e]
          exact k _ (x1.trans x2)
      · have hm' : decide ((u.length : Int) ≤ 60) = false := by simp; omega
        rw [hm']
        have e : (decide (u.length ≤ 60) && red u) = false := by simp [hm]
        rw [e] at k
        exact k _ x1
    · refine ⟨_, rfl, .inl ⟨l, 60, rfl, hl, fun H1 x1 => ⟨_, rfl, ?_⟩⟩⟩
      rw [hb]
      exact k _ x1
    · exact ⟨_, rfl,   .inr ⟨_, .int 60, rfl, hn, _, rfl, k _ Ext.rfl'⟩⟩
/-! need_word -/
def sp_need_word (K : PySem.W.Frag) : Sp := fun vs H Q E => ∃ v b, vs = [v] ∧ IsW K H v b ∧ ∀ H', Ext H H' → if b = true then Q .non H' else E (.ref (He.ga K "NoWord")) none H'
theorem sc_need_word : FnScope ["thing"] ["thing"] (defScope s_words_need_word) := ⟨rfl, rfl, rfl, by decide +kernel, rfl, by decide +kernel, by decide +kernel⟩
theorem ok_need_word (T : Txt K mg) : Ok P w K mg base 3 (n_words_need_word) ["thing"] (sp_need_word K) := by
  refine ok_of T.f_words_need_word sc_need_word (fun _ _ _ _ _ _ us hl => match us, hl with | [_], _ => rfl) (fun vs H Q E h => ?_) (fun f cdv A outer s H vs Q E hr h => ?_)
  · obtain ⟨v, b, rfl, _⟩ := h
    rfl
  · refine ⟨_, pss_one (ps_if (pt_not (pt_val (pe_ok (ok_is_word T) hr passL (pa_cons (pv 0) pa_nil)))) (pss_one (ps_rs rfl T.e_NoWord (takes_of rfl rfl rfl rfl))) pss_nil), ?_⟩
    obtain ⟨v, b, rfl, hw, k⟩ := h
    refine ⟨_, rfl, v, b, rfl, hw, fun H1 x1 => ⟨_, rfl, ?_⟩⟩
    have := k H1 x1
    cases b <;> exact this
/-! put_together -/
def ptS (acc : List L) (x : L) : List L := if acc.getLast? = some (bk x) then acc.dropLast else acc ++ [x]
def pt (u : List L) : List L := u.foldl ptS []
abbrev wL (u : List L) : List V := u.map fun x => .str (lS x)
theorem pt_take {u : List L} {i : Nat} {x : L} (h : u[i]? = some x) : pt (u.take (i + 1)) = ptS (pt (u.take i)) x := by
  rw [List.take_succ, h]
  simp [pt, List.foldl_append]
theorem ptS_len (acc : List L) (x : L) : (ptS acc x).length ≤ acc.length + 1 := by
  unfold ptS
  split <;> simp <;> omega
theorem pt_len (u : List L) : (pt u).length ≤ u.length := by
  have : ∀ (u acc : List L), (u.foldl ptS acc).length ≤ acc.length + u.length := by
    intro u
    induction u with
    | nil => intro acc; simp
    | cons x u ih =>
      intro acc
      have h1 := ih (ptS acc x)
      have h2 := ptS_len acc x
      simp only [List.foldl_cons, List.length_cons]
      omega
  simpa [pt] using this u []
theorem flat_w (u : List L) : (u.map fun x => [cp x]).flatten = u.map cp := by
  induction u with
  | nil => rfl
  | cons x u ih => simp only [List.map_cons, List.flatten_cons, ih]; rfl
theorem map_lS (u : List L) : u.map lS = (u.map fun x => [cp x]).map tS := by rw [List.map_map]; rfl
theorem join_w (u : List L) : Txt.join (tS []) (u.map lS) = wS u := by
  rw [map_lS, join_e, flat_w]
theorem lens_w (u : List L) : ((u.map lS).map (·.length)).sum + (u.map lS).length * (tS []).length = u.length := by
  rw [map_lS, lens_e, flat_w, List.length_map]
theorem dp_w {K : PySem.W.Frag} {H : Hp} (u : List L) : DpAll K H (wL u) (u.map fun x => PyData.str (lS x)) := dp_map fun x _ => Dp.str _
theorem sh_w (u : List L) : SeqAt.shaped (.list (u.map fun x => PyData.str (lS x))) = true := shaped_list fun d hd => by
  obtain ⟨x, _, rfl⟩ := List.mem_map.mp hd
  exact ⟨lay_l x, Nat.zero_le _⟩
def sp_put_together : Sp := fun vs H Q _ => ∃ u : List L, vs = [.str (wS u)] ∧ u.length ≤ 16000000 ∧ ∀ H', Ext H H' → Q (.str (wS (pt u))) H'
theorem sc_put_together : FnScope ["letters", "found", "letter"] ["letters"] (defScope s_words_put_together) := ⟨rfl, rfl, rfl, by decide +kernel, rfl, by decide +kernel, by decide +kernel⟩
theorem ok_put_together (T : Txt K mg) : Ok P w K mg base 2 (n_words_put_together) ["letters"] sp_put_together := by
  refine ok_of T.f_words_put_together sc_put_together (fun _ _ _ _ _ _ us hl => match us, hl with | [_], _ => rfl) (fun vs H Q E h => ?_) (fun f cdv A outer s H vs Q E hr h => ?_)
  · obtain ⟨u, rfl, _⟩ := h
    rfl
  · refine ⟨_, pss_cons (ps_set (i := 1) sc_put_together.nd rfl (Or.inl rfl) (pe_lst pa_nil)) (pss_cons (ps_for (passes_of rfl) rfl (pi_str (pv 0)) (pg_name (i := 2) sc_put_together.nd rfl (Or.inl rfl))
      (pss_one (ps_if (pw_and (pt_cmpR (op_neD hr.units) (pv 1) (pe_lst pa_nil) (nomark _)) (pw_and1 (pt_cmpR op_eq (pe_ix ix_list (pv 1) (pe_un un_neg pe_int) (fun _ _ => rfl)) (pe_ok (ok_back_of T) hr passL (pa_cons (pv 2) pa_nil)) (nomark _)))).pt
        (pss_one (ps_expr (pe_bm0 PySem.F.plainAttrs_list PySem.F.slot_list_pop PySem.F.type_list_pop mt_pop (pv 1))))
        (pss_one (ps_expr (pe_bm PySem.F.plainAttrs_list PySem.F.slot_list_append PySem.F.type_list_append mt_append (pv 1) (pa_cons (pv 2) pa_nil)))))))
      (pss_one (ps_ret (pe_join pe_str (pv 1))))), ?_⟩
    obtain ⟨u, rfl, hl, k⟩ := h
    refine ⟨Nat.zero_le _, fun D hD => ⟨_, rfl, wS u, rfl, for_it walk_str (fun i σ H1 => (∃ lv, σ = [some (.str (wS u)), some (.ref D), lv]) ∧ Ext H H1 ∧ H1 D = some (.lst (wL (pt (u.take i))))) ⟨⟨_, rfl⟩, Ext.new hD, upd_same⟩ (fun _ _ _ _ _ => True.intro) (fun i x σ H1 H2 hi p y => ?_) (fun σ H1 p => ?_)⟩⟩
    · obtain ⟨⟨lv, rfl⟩, x1, hd⟩ := p
      obtain ⟨rfl, c, hc, rfl⟩ := y
      obtain ⟨x, hx, rfl⟩ := w_at_inv hc
      rw [pt_take hx]
      have hsz : (pt (u.take i)).length ≤ u.length := Nat.le_trans (pt_len _) (by simp; omega)
      revert hd hsz
      generalize pt (u.take i) = acc
      intro hd hsz
      have hin : ∀ (H3 : Hp), Ext H H3 → H3 D = some (.lst (wL acc)) → acc.getLast? ≠ some (bk x) →
          ∃ l xs v, V.ref D = .ref l ∧ [V.str (lS x)] = [v] ∧ H3 l = some (.lst xs) ∧ xs.length < sizeLine ∧ ((∃ lv, ([some (.str (wS u)), some (.ref D), some (.str (lS x))] : L2.St) = [some (.str (wS u)), some (.ref D), lv]) ∧ Ext H (upd H3 l (.lst (xs ++ [v]))) ∧ upd H3 l (.lst (xs ++ [v])) D = some (.lst (wL (ptS acc x)))) := by
        intro H3 x3 h3 hne
        refine ⟨D, _, _, rfl, rfl, h3, ?_, ⟨_, rfl⟩, Ext.put hD x3, ?_⟩
        · have := big_of hl
          rw [sizeLine_eq] at *
          simp
          omega
        · rw [upd_same]
          unfold ptS
          rw [if_neg hne]
          simp
      refine ⟨_, rfl, Nat.zero_le _, fun e0 he => ⟨_, _, Dp.lst (SqL.of (Ext.new he _ _ hd)) (dp_w acc), Dp.lst (SqL.of upd_same) .nil, sh_w acc, rfl, _, rfl, ?_⟩⟩
      rw [eqv_nil]
      have x3 : Ext H (upd H2 e0 (.lst [])) := x1.trans (Ext.new he)
      have h3 : upd H2 e0 (.lst []) D = some (.lst (wL acc)) := Ext.new he _ _ hd
      rcases List.eq_nil_or_concat acc with rfl | ⟨a, y, rfl⟩
      · exact ⟨_, rfl, .inl ⟨rfl, _, SqL.of h3⟩, _, rfl, hin _ x3 h3 (by simp)⟩
      · have e1 : (List.map (fun x => PyData.str (lS x)) (a.concat y)).isEmpty = false := by simp
        rw [e1]
        rw [List.concat_eq_append] at *
        refine ⟨_, rfl, _, rfl, D, wL (a ++ [y]), -1, .str (lS y), rfl, rfl, SqL.of h3, (by show atI (wL (a ++ [y])) (-1) = _; unfold wL; rw [List.map_append]; exact atI_last _ _), _, rfl, x, rfl, rfl, _, rfl, ?_⟩
        rw [cp_eq]
        by_cases hy : y = bk x
        · rw [decide_eq_true hy]
          refine ⟨_, rfl, .inl ⟨rfl, _, SqL.of h3⟩, D, _, _, rfl, rfl, h3, (by simp; rfl), ⟨_, rfl⟩, Ext.put hD x3, ?_⟩
          rw [upd_same]
          unfold ptS
          rw [if_pos (by simp [hy])]
          simp
        · rw [decide_eq_false hy]
          exact ⟨_, rfl, .inl ⟨rfl, _, SqL.of h3⟩, _, rfl, hin _ x3 h3 (by simp [hy])⟩
    · obtain ⟨⟨lv, rfl⟩, x1, hd⟩ := p
      have e : u.take (wS u).cps.size = u := by simp
      rw [e] at hd
      refine ⟨⟨_, rfl⟩, _, rfl, tS [], D, (pt u).map lS, rfl, rfl, .inl (SqL.of (by rw [hd, List.map_map]; rfl)), ?_, ?_⟩
      · rw [lens_w]
        have := pt_len u
        omega
      · rw [join_w]
        exact k _ x1
/-! back -/
def bkW (u : List L) : List L := u.reverse.map bk
theorem bkW_len (u : List L) : (bkW u).length = u.length := by simp [bkW]
def sp_back : Sp := fun vs H Q _ => ∃ u : List L, vs = [.str (wS u)] ∧ u.length ≤ 16000000 ∧ ∀ H', Ext H H' → Q (.str (wS (bkW u))) H'
theorem sc_back : FnScope ["word", "letter"] ["word"] (defScope s_words_back) := ⟨rfl, rfl, rfl, by decide +kernel, rfl, by decide +kernel, by decide +kernel⟩
theorem ok_back (T : Txt K mg) : Ok P w K mg base 2 (n_words_back) ["word"] sp_back := by
  refine ok_of T.f_words_back sc_back (fun _ _ _ _ _ _ us hl => match us, hl with | [_], _ => rfl) (fun vs H Q E h => ?_) (fun f cdv A outer s H vs Q E hr h => ?_)
  · obtain ⟨u, rfl, _⟩ := h
    rfl
  · refine ⟨_, pss_one (ps_ret (pe_join pe_str (pe_lc (own := [("letter", 1)]) (g := gName 1) (tt := tYes) rfl sc_back.nd (pi_revS (by rfl) T.b_reversed (pv 0)) (blkOk_by (N := ["word", "letter"]) (sc := defScope s_words_back) (by decide +kernel))
      (fun _ _ _ _ _ => pg_name (i := 1) sc_back.nd rfl (Or.inl rfl)) (fun _ _ _ _ _ => pts_nil) (fun _ _ _ _ _ => pe_ok (ok_back_of T) hr passL (pa_cons (pv 1) pa_nil))))), ?_⟩
    obtain ⟨u, rfl, hl, k⟩ := h
    have hl2 : u.length ≤ sizeLine := big_of hl
    refine ⟨⟨_, rfl⟩, _, rfl, wS u, rfl, by rw [wS_len]; exact hl2, fun D hD => lc_all walk_revS (wL (bkW u)) (by rw [wS_len]; simp [bkW]) hD (by rw [wS_len]; exact hl2) (fun _ _ => True.intro) (fun i r x H1 H2 Q' hr x1 y hq => ?_) (fun H1 x1 hd => ?_)⟩
    · obtain ⟨rfl, c, hc, rfl⟩ := y
      rw [wS_len] at hc
      obtain ⟨x, hx, rfl⟩ := w_at_inv hc
      have hi : i < u.length := by
        have := (List.getElem?_eq_some_iff.mp hr).1
        simpa [bkW] using this
      have e : r = .str (lS (bk x)) := by
        have e1 : u.reverse[i]? = some x := by rw [List.getElem?_reverse hi]; exact hx
        have e2 : (bkW u)[i]? = some (bk x) := by unfold bkW; rw [List.getElem?_map, e1]; rfl
        rw [List.getElem?_map, e2] at hr
        exact (Option.some.inj hr).symm
      rw [e] at hq
      exact ⟨rfl, _, rfl, x, rfl, hq _ Ext.rfl'⟩
    · refine ⟨tS [], D, (bkW u).map lS, rfl, rfl, .inl (SqL.of (by rw [hd, List.map_map]; rfl)), ?_, ?_⟩
      · rw [lens_w, bkW_len]
        omega
      · rw [join_w]
        exact k _ x1
/-! is_whole -/
def IsI (K : PySem.W.Frag) (H : Hp) (v : V) (b : Bool) : Prop := (∃ i, v = .int i ∧ b = true) ∨ (∃ x, v = .bl x ∧ b = false) ∨ (NoTy K v H "int" ∧ b = false)
def sp_is_whole (K : PySem.W.Frag) : Sp := fun vs H Q _ => ∃ v b, vs = [v] ∧ IsI K H v b ∧ Q (.bl b) H
theorem sc_is_whole : FnScope ["thing"] ["thing"] (defScope s_words_is_whole) := ⟨rfl, rfl, rfl, by decide +kernel, rfl, by decide +kernel, by decide +kernel⟩
theorem ok_is_whole (T : Txt K mg) : Ok P w K mg base 1 (n_words_is_whole) ["thing"] (sp_is_whole K) := by
  refine ok_of T.f_words_is_whole sc_is_whole (fun _ _ _ _ _ _ us hl => match us, hl with | [_], _ => rfl) (fun vs H Q E h => ?_) (fun f cdv A outer s H vs Q E hr h => ?_)
  · obtain ⟨u, b, rfl, _⟩ := h
    rfl
  · refine ⟨_, pss_one (ps_ret (pe_and (pe_callB call_isi (by rfl) T.b_isinstance (by decide +kernel) (pa_cons (pv 0) (pa_cons (pe_bltn (v := .ty "int") (u := .type "int") (by rfl) T.b_int rfl rfl) pa_nil)))
      (pe_one (pe_not (pe_callB call_isi (by rfl) T.b_isinstance (by decide +kernel) (pa_cons (pv 0) (pa_cons (pe_bltn (v := .ty "bool") (u := .type "bool") (by rfl) T.b_bool rfl rfl) pa_nil))))))), ?_⟩
    obtain ⟨v, b, rfl, hv, k⟩ := h
    rcases hv with ⟨i, rfl, rfl⟩ | ⟨x, rfl, rfl⟩ | ⟨⟨t, ty, e⟩, rfl⟩
    · exact ⟨_, rfl, _, _, _, _, true, rfl, .ty "int", .base (.int _), kit_ty (by decide +kernel), true, rfl, _, rfl, _, _, _, _, false, rfl, .ty "bool", .base (.int _), kit_ty (by decide +kernel), _, rfl, k⟩
    · exact ⟨_, rfl, _, _, _, _, true, rfl, .ty "int", .base (.bl _), kit_ty (by decide +kernel), true, rfl, _, rfl, _, _, _, _, true, rfl, .ty "bool", .base (.bl _), kit_ty (by decide +kernel), _, rfl, k⟩
    · exact ⟨_, rfl, _, _, _, _, false, rfl, .ty "int", ty, e, false, rfl, k⟩
/-! times -/
theorem wS_app (u v : List L) : wS u ++ wS v = wS (u ++ v) := by
  rw [SX.S_cat]
  simp
end
end BW


set_option Elab.async false
set_option linter.all false
set_option maxRecDepth 100000
set_option maxHeartbeats 4000000
namespace BW
open PySem PySem.Spec PyProof.Rows L2 BwR BwE BwD BwS
section
variable {P : Program} {w : World} {K : PySem.W.Frag} {mg : Str → Option Value} {base : Heap}
/-! is_road -/
def inR (m : Nat) (r : Ro) : Bool := decide (r.1 < m) && decide (r.2.2 < m)
def lo (x : L) : Bool := decide (x.val % 2 = 0)
def loS : Str := ⟨#[97, 98, 99, 100, 101, 102]⟩
theorem lo_in (x : L) : decide (cp x ∈ loS.cps.toList) = lo x := by revert x; decide
def sp_is_road : Sp := fun vs H Q _ => ∃ (t : Addr) (r : Ro) (m : Nat), vs = [.ref t, vN m] ∧ H t = some (.tup (rV r)) ∧ lo r.2.1 = true ∧ Q (.bl (inR m r)) H
theorem sc_is_road : FnScope ["thing", "many", "first", "letter", "last"] ["thing", "many"] (defScope s_webs_is_road) := ⟨rfl, rfl, rfl, by decide +kernel, rfl, by decide +kernel, by decide +kernel⟩
theorem ok_is_road (T : Txt K mg) : Ok P w K mg base 2 (n_webs_is_road) ["thing", "many"] sp_is_road := by
  refine ok_of T.f_webs_is_road sc_is_road (fun _ _ _ _ _ _ us hl => match us, hl with | [_, _], _ => rfl) (fun vs H Q E h => ?_) (fun f cdv A outer s H vs Q E hr h => ?_)
  · obtain ⟨t, r, m, rfl, _⟩ := h
    rfl
  · refine ⟨_, pss_cons (ps_if (pw_or (pt_not (pt_val (pe_callB call_isi (by rfl) T.b_isinstance (by decide +kernel) (pa_cons (pv 0) (pa_cons (pe_bltn (v := .ty "tuple") (u := .type "tuple") (by rfl) T.b_tuple rfl rfl) pa_nil)))))
        (pw_or (pt_cmpR op_ne (pe_callB call_len_seq (by rfl) T.b_len PySem.boot_len (pa_cons (pv 0) pa_nil)) pe_int (nomark _))
          (pw_or1 (pt_not (pt_val (pe_callB call_isi (by rfl) T.b_isinstance (by decide +kernel) (pa_cons (pe_ix ix_tup (pv 0) pe_int (fun _ _ => rfl)) (pa_cons (pe_bltn (v := .ty "str") (u := .type "str") (by rfl) T.b_str rfl rfl) pa_nil)))))))).pt (pss_one (ps_ret pe_bl)) pss_nil)
      (pss_cons (ps_asg (pv 0) (pg_tup rfl (pgs_cons (pg_name (i := 2) sc_is_road.nd rfl (Or.inl rfl)) (pgs_cons (pg_name (i := 3) sc_is_road.nd rfl (Or.inl rfl)) (pgs_cons (pg_name (i := 4) sc_is_road.nd rfl (Or.inl rfl)) pgs_nil)))))
        (pss_cons (ps_if (pw_or (pt_cmpR op_ne (pe_callB call_len_str (by rfl) T.b_len PySem.boot_len (pa_cons (pv 3) pa_nil)) pe_int (nomark _)) (pw_or1 (pt_cmpR op_notIn_sign (pv 3) (pe_gs T.g_words_LETTERS) rfl))).pt (pss_one (ps_ret pe_bl)) pss_nil)
          (pss_one (ps_ret (pe_and (pe_ok (ok_is_whole T) hr passL (pa_cons (pv 2) pa_nil)) (pe_and (pe_ok (ok_is_whole T) hr passL (pa_cons (pv 4) pa_nil))
            (pe_and (pe_chain op_le op_lt pe_int (pv 2) (pv 1)) (pe_one (pe_chain op_le op_lt pe_int (pv 4) (pv 1)))))))))), ?_⟩
    obtain ⟨t, ⟨p, x, q⟩, m, rfl, ht, hx, k⟩ := h
    refine ⟨_, rfl, _, _, _, _, true, rfl, .ty "tuple", .base (.tup ht), kit_ty (by decide +kernel), true, rfl, _, rfl, t, _, rfl, .inr (SqT.of ht), rfl, _, rfl, _, rfl, t, _, _, _, rfl, rfl, SqT.of ht, rfl, _, _, _, _, true, rfl, .ty "str", .base (.str _), kit_ty (by decide +kernel), true, rfl, ?_⟩
    refine ⟨_, rfl, t, _, rfl, SqT.of ht, rfl, _, _, rfl, _, _, rfl, _, _, rfl, rfl, ?_⟩
    refine ⟨_, rfl, _, rfl, big_lt (by decide), rfl, _, rfl, _, rfl, _, loS, rfl, rfl, _, rfl, ?_⟩
    rw [lo_in, hx]
    refine ⟨_, rfl, _, _, rfl, .inl ⟨_, rfl, rfl⟩, true, rfl, _, rfl, _, _, rfl, .inl ⟨_, rfl, rfl⟩, true, rfl, ?_⟩
    have c1 : decide ((0 : Int) ≤ (p : Int)) = true := by simp
    have c2 : decide ((0 : Int) ≤ (q : Int)) = true := by simp
    have c3 : inR m (p, x, q) = (decide ((p : Int) < (m : Int)) && decide ((q : Int) < (m : Int))) := by simp [inR]
    rw [c3] at k
    refine ⟨_, rfl, 0, _, rfl, rfl, true, congrArg V.bl c1, _, rfl, _, _, rfl, rfl, _, rfl, ?_⟩
    by_cases h1 : (p : Int) < (m : Int)
    · rw [if_pos (by simpa using h1)]
      refine ⟨_, rfl, 0, _, rfl, rfl, true, congrArg V.bl c2, _, rfl, _, _, rfl, rfl, ?_⟩
      rw [decide_eq_true h1] at k
      exact k
    · rw [if_neg (by simpa using h1)]
      rw [decide_eq_false h1] at k
      exact k
/-! steps_of -/
def sdF : St → List Ro → Option St
  | st, [] => some st
  | st, k :: ks => (sd st (k.1, k.2.1) k.2.2).bind fun st => sdF st ks
theorem stS_eq (st : St) (r : Ro) : stS st r = sdF st [r, (r.2.2, bk r.2.1, r.1)] := by
  unfold stS sdF
  cases sd st (r.1, r.2.1) r.2.2 with
  | none => rfl
  | some st1 =>
    show sd st1 (r.2.2, bk r.2.1) r.1 = (sd st1 (r.2.2, bk r.2.1) r.1).bind fun st => sdF st []
    cases sd st1 (r.2.2, bk r.2.1) r.1 <;> rfl
def sp_steps_of : Sp := fun vs H Q _ => ∃ (a : Addr) (ts : List Addr) (rs : List Ro), vs = [.ref a] ∧ SqAt H a (rfs ts) ∧ TupsAt H ts rs ∧ rs.length ≤ 4000000 ∧
  ((stepsOf rs = none ∧ ∀ H', Ext H H' → Q .non H') ∨ ∃ st, stepsOf rs = some st ∧ ∀ H' D, Ext H H' → H D = none → H' D = some (.dT (kvT st)) → Q (.ref D) H')
theorem sc_steps_of : FnScope ["roads", "found", "first", "letter", "last", "here", "sign", "there"] ["roads"] (defScope s_webs_steps_of) := ⟨rfl, rfl, rfl, by decide +kernel, rfl, by decide +kernel, by decide +kernel⟩
theorem ok_steps_of (T : Txt K mg) : Ok P w K mg base 2 (n_webs_steps_of) ["roads"] sp_steps_of := by
  refine ok_of T.f_webs_steps_of sc_steps_of (fun _ _ _ _ _ _ us hl => match us, hl with | [_], _ => rfl) (fun vs H Q E h => ?_) (fun f cdv A outer s H vs Q E hr h => ?_)
  · obtain ⟨a, ts, rs, rfl, _⟩ := h
    rfl
  · have hu := hu_of hr
    refine ⟨_, pss_cons (ps_set (i := 1) sc_steps_of.nd rfl (Or.inl rfl) pe_dnewT) (pss_cons (ps_for (passes_of rfl) rfl (pi_sq (pv 0)) (pg_tup rfl (pgs_cons (pg_name (i := 2) sc_steps_of.nd rfl (Or.inl rfl)) (pgs_cons (pg_name (i := 3) sc_steps_of.nd rfl (Or.inl rfl)) (pgs_cons (pg_name (i := 4) sc_steps_of.nd rfl (Or.inl rfl)) pgs_nil))))
      (pss_one (ps_for (passes_of rfl) rfl (pi_tup (pe_tup (pa_cons (pe_tup (pa_cons (pv 2) (pa_cons (pv 3) (pa_cons (pv 4) pa_nil)))) (pa_cons (pe_tup (pa_cons (pv 4) (pa_cons (pe_ok (ok_back_of T) hr passL (pa_cons (pv 3) pa_nil)) (pa_cons (pv 2) pa_nil)))) pa_nil))))
        (pg_tup rfl (pgs_cons (pg_name (i := 5) sc_steps_of.nd rfl (Or.inl rfl)) (pgs_cons (pg_name (i := 6) sc_steps_of.nd rfl (Or.inl rfl)) (pgs_cons (pg_name (i := 7) sc_steps_of.nd rfl (Or.inl rfl)) pgs_nil))))
        (pss_one (ps_if (pt_cmpR op_ne (pe_setdT hu (pv 1) (pe_tup (pa_cons (pv 5) (pa_cons (pv 6) pa_nil))) (pv 7) ⟨rfl, rfl, rfl, rfl⟩) (pv 7) (nomark _)) (pss_one (ps_ret pe_non)) pss_nil))))) (pss_one (ps_ret (pv 1)))), ?_⟩
    obtain ⟨a, ts, rs, rfl, hs, ht, hn, k⟩ := h
    obtain ⟨J, G, hJ, wk, hG⟩ := sq_walk K hs
    refine fun D hD => ⟨_, rfl, a, J, rfl, hJ _ (Ext.new hD), for_it wk (fun i σ H1 => (∃ v2 v3 v4 v5 v6 v7, σ = [some (.ref a), some (.ref D), v2, v3, v4, v5, v6, v7]) ∧ Ext H H1 ∧
        ∃ st, H1 D = some (.dT (kvT st)) ∧ stepsF st (rs.drop i) = stepsOf rs ∧ st.length ≤ 2 * i) ⟨⟨_, _, _, _, _, _, rfl⟩, Ext.new hD, [], upd_same, rfl, Nat.zero_le _⟩ (fun i σ H1 _ p => hG _ p.2.1) (fun i x σ Ha H1 hi p y => ?_) (fun σ H1 p => ?_)⟩
    · obtain ⟨⟨v2, v3, v4, v5, v6, v7, rfl⟩, x1, st, hd, hst, hlen⟩ := p
      obtain ⟨rfl, hx⟩ := y
      obtain ⟨t, hti, rfl⟩ := rfs_at hx
      obtain ⟨⟨p, l, q⟩, hri, htr⟩ := ht.at hti
      have hin : i < rs.length := (List.getElem?_eq_some_iff.mp hri).1
      rw [drop_at hri] at hst
      have hst : (sdF st [(p, l, q), (q, bk l, p)]).bind (fun st => stepsF st (rs.drop (i + 1))) = stepsOf rs := by rw [← hst, ← stS_eq]; rfl
      refine ⟨t, _, rfl, SqT.of (x1 _ _ htr), rfl, _, _, rfl, _, _, rfl, _, _, rfl, rfl, ?_⟩
      refine ⟨_, rfl, _, rfl, _, rfl, sz3, fun t1 h1 => ⟨_, rfl, _, rfl, l, rfl, _, rfl, sz3, fun t2 h2 => ⟨sz2, fun T3 h3 => ⟨T3, rfl, ⟨_, SqT.of upd_same⟩, ?_⟩⟩⟩⟩
      have w1 : Ext H1 (upd (upd (upd H1 t1 (.tup (rV (p, l, q)))) t2 (.tup (rV (q, bk l, p)))) T3 (.tup [.ref t1, .ref t2])) := ((Ext.new h1).trans (Ext.new h2)).trans (Ext.new h3)
      have g1 : upd (upd (upd H1 t1 (.tup (rV (p, l, q)))) t2 (.tup (rV (q, bk l, p)))) T3 (.tup [.ref t1, .ref t2]) t1 = some (.tup (rV (p, l, q))) := (Ext.new h3) _ _ ((Ext.new h2) _ _ upd_same)
      have g2 : upd (upd (upd H1 t1 (.tup (rV (p, l, q)))) t2 (.tup (rV (q, bk l, p)))) T3 (.tup [.ref t1, .ref t2]) t2 = some (.tup (rV (q, bk l, p))) := (Ext.new h3) _ _ upd_same
      have g3 : upd (upd (upd H1 t1 (.tup (rV (p, l, q)))) t2 (.tup (rV (q, bk l, p)))) T3 (.tup [.ref t1, .ref t2]) T3 = some (.tup [.ref t1, .ref t2]) := upd_same
      show ∃ W : Nat → Nat → L2.St → Hp → Prop, (∃ m, W 0 m _ (upd (upd (upd H1 t1 (.tup (rV (p, l, q)))) t2 (.tup (rV (q, bk l, p)))) T3 (.tup [.ref t1, .ref t2]))) ∧ _
      revert w1 g1 g2 g3
      generalize upd (upd (upd H1 t1 (.tup (rV (p, l, q)))) t2 (.tup (rV (q, bk l, p)))) T3 (.tup [.ref t1, .ref t2]) = Hc
      intro w1 g1 g2 g3
      have hdc := w1 _ _ hd
      have tt : TupsAt Hc [t1, t2] [(p, l, q), (q, bk l, p)] := ⟨rfl, fun i t r a b => by
        match i, a, b with
        | 0, a, b => cases a; cases b; exact g1
        | 1, a, b => cases a; cases b; exact g2⟩
      refine for_it (walk_tup (K := K) (a := T3) (xs := rfs [t1, t2])) (fun j σ H2 => (∃ v5 v6 v7, σ = [some (.ref a), some (.ref D), some (vN p), some (.str (lS l)), some (vN q), v5, v6, v7]) ∧ Ext1 D Hc H2 ∧
        ∃ st, H2 D = some (.dT (kvT st)) ∧ (sdF st ([(p, l, q), (q, bk l, p)].drop j)).bind (fun st => stepsF st (rs.drop (i + 1))) = stepsOf rs ∧ st.length ≤ 2 * i + j) ⟨⟨_, _, _, rfl⟩, Ext1.rfl', st, hdc, hst, by omega⟩
        (fun j σ H2 _ p => SqT.of (p.2.1 _ _ (ne_at g3 hdc (fun z => nomatch z)) g3)) (fun j y σ Hb H2 hj pp y => ?_) (fun σ H2 pp => ?_)
      · obtain ⟨⟨v5, v6, v7, rfl⟩, x2, sti, hd2, hsti, hl2⟩ := pp
        obtain ⟨rfl, hy⟩ := y
        obtain ⟨tj, htj, rfl⟩ := rfs_at hy
        obtain ⟨⟨hp, sg, th⟩, hrj, hkj⟩ := tt.at htj
        rw [drop_at hrj] at hsti
        have hkj2 := x2 _ _ (ne_at hkj hdc (fun z => nomatch z)) hkj
        refine ⟨tj, _, rfl, SqT.of hkj2, rfl, _, _, rfl, _, _, rfl, _, _, rfl, rfl, ?_⟩
        refine ⟨_, rfl, D, rfl, .inr ⟨_, .of hd2⟩, _, rfl, _, rfl, sz2, fun kt hkt => ⟨_, rfl, kvT sti, kP (hp, sg), kt, (Ext.new hkt) _ _ hd2, rfl, upd_same, ?_, fun v hv => ?_, fun hv => ?_⟩⟩
        · rw [encD_len]
          have e2 : (rfs [t1, t2]).length = 2 := rfl
          exact big_lt (by omega)
        · rw [val_enc kP_inj] at hv
          obtain ⟨wv, hwv, rfl⟩ := Option.map_eq_some_iff.mp hv
          refine ⟨_, rfl, rfl, _, rfl, ?_⟩
          rw [ne_N]
          by_cases he : wv = th
          · rw [decide_eq_true he]
            refine ⟨⟨_, _, _, rfl⟩, x2.trans (Ext.new hkt).e1, sti, (Ext.new hkt) _ _ hd2, ?_, by omega⟩
            rw [← hsti]
            show _ = ((sd sti (hp, sg) th).bind _).bind _
            unfold sd
            rw [hwv]
            simp [he]
          · rw [decide_eq_false he]
            have e0 : stepsOf rs = none := by
              rw [← hsti]
              show ((sd sti (hp, sg) th).bind _).bind _ = _
              unfold sd
              rw [hwv]
              simp [he]
            rcases k with ⟨_, k⟩ | ⟨st', e, _⟩
            · exact k _ (Ext1.ext (x1.trans w1) (x2.trans (Ext.new hkt).e1) hD)
            · rw [e0] at e
              cases e
        · rw [val_enc kP_inj, Option.map_eq_none_iff] at hv
          refine ⟨_, rfl, rfl, _, rfl, ?_⟩
          rw [ne_N, decide_eq_true rfl]
          refine ⟨⟨_, _, _, rfl⟩, (x2.trans (Ext.new hkt).e1).put _, sti ++ [((hp, sg), th)], ?_, ?_, by simp; omega⟩
          · rw [upd_same]
            have e1 := put_enc (g := vN) kP_inj (hp, sg) th sti
            rw [putA_none hv] at e1
            exact congrArg (fun z => some (HO.dT z)) e1
          · rw [← hsti]
            show _ = ((sd sti (hp, sg) th).bind _).bind _
            unfold sd
            rw [hv]
            rfl
      · obtain ⟨⟨v5, v6, v7, rfl⟩, x2, sti, hd2, hsti, hl2⟩ := pp
        refine ⟨⟨_, _, _, _, _, _, rfl⟩, Ext1.ext (x1.trans w1) x2 hD, sti, hd2, hsti, ?_⟩
        have e2 : (rfs [t1, t2]).length = 2 := rfl
        omega
    · obtain ⟨⟨v2, v3, v4, v5, v6, v7, rfl⟩, x1, st, hd, hst, _⟩ := p
      rw [List.drop_eq_nil_of_le (by simp [ht.1])] at hst
      rcases k with ⟨e, _⟩ | ⟨st', e, k⟩
      · rw [e] at hst
        cases hst
      · rw [e] at hst
        cases hst
        exact ⟨_, rfl, k _ _ x1 hD hd⟩
end
end BW


set_option Elab.async false
set_option linter.all false
set_option maxRecDepth 100000
set_option maxHeartbeats 4000000
namespace BW
open PySem PySem.Spec PyProof.Rows L2 BwR BwE BwD BwS
section
variable {P : Program} {w : World} {K : PySem.W.Frag} {mg : Str → Option Value} {base : Heap}
abbrev tI (K : PySem.W.Frag) (i : Nat) (j : Int) : TE := tOp (rIxT K) (tVar i) (tC (.int j))
/-! is_held -/
def sp_is_held : Sp := fun vs H Q _ => ∃ (p : Nat) (e : Addr) (es : List Nat), vs = [vN p, .ref e] ∧ H e = some (.lst (es.map vN)) ∧ Q (.bl (held es p)) H
theorem sc_is_held : FnScope ["place", "ends"] ["place", "ends"] (defScope s_webs_is_held) := ⟨rfl, rfl, rfl, by decide +kernel, rfl, by decide +kernel, by decide +kernel⟩
theorem ok_is_held (T : Txt K mg) : Ok P w K mg base 1 (n_webs_is_held) ["place", "ends"] sp_is_held := by
  refine ok_of T.f_webs_is_held sc_is_held (fun _ _ _ _ _ _ us hl => match us, hl with | [_, _], _ => rfl) (fun vs H Q E h => ?_) (fun f cdv A outer s H vs Q E hr h => ?_)
  · obtain ⟨p, e, es, rfl, _⟩ := h
    rfl
  · refine ⟨_, pss_one (ps_ret (pe_or (pe_cmpR op_eq (pv 0) pe_int (nomark _)) (pe_one (pe_cmp (pc_gt (pe_bm PySem.F.plainAttrs_list PySem.F.slot_list_count PySem.F.type_list_count mt_lcount (pv 1) (pa_cons (pv 0) pa_nil)) pe_int))))), ?_⟩
    obtain ⟨p, e, es, rfl, he, k⟩ := h
    refine ⟨_, rfl, rfl, _, rfl, ?_⟩
    have e1 : decide (V.int (p : Int) = V.int 0) = decide (p = 0) := by
      rw [Bool.eq_iff_iff]
      simp only [decide_eq_true_eq, V.int.injEq]
      omega
    show (if decide (V.int (p : Int) = V.int 0) = true then _ else _)
    rw [e1]
    unfold held at k
    by_cases hp : p = 0
    · rw [if_pos (by simpa using hp)]
      rw [decide_eq_true hp] at k
      exact k
    · rw [if_neg (by simpa using hp)]
      rw [decide_eq_false hp, Bool.false_or] at k
      refine ⟨_, rfl, .inl ⟨rfl, _, SqL.of he⟩, _, rfl, e, es.map (fun n : Nat => (n : Int)), (p : Int), rfl, rfl, SqL.of (by rw [he, List.map_map]; rfl), _, _, rfl, rfl, ?_⟩
      rw [cnt_N]
      have e2 : decide ((1 : Int) < ((es.count p : Nat) : Int)) = decide (1 < es.count p) := by
        rw [Bool.eq_iff_iff, decide_eq_true_eq, decide_eq_true_eq]
        omega
      show Q (V.bl (decide ((1 : Int) < ((es.count p : Nat) : Int)))) H
      rw [e2]
      exact k
/-! trimmed -/
def sp_trimmed : Sp := fun vs H Q _ => ∃ (a : Addr) (prs : List (Addr × Ro)) (n : Nat) (rs' : List Ro), vs = [.ref a] ∧ SqAt H a (prV prs) ∧ PrsAt H prs ∧ prs.length ≤ 4000000 ∧ trimW n (prs.map (·.2)) = some rs' ∧
  ∀ H' D prs', Ext H H' → H D = none → H' D = some (.lst (prV prs')) → PrsAt H' prs' → prs'.map (·.2) = rs' → prs'.length ≤ prs.length → Q (.ref D) H'
theorem sc_trimmed : FnScope ["roads", "left", "cut", "ends", "kept", "road"] ["roads"] (defScope s_webs_trimmed) := ⟨rfl, rfl, rfl, by decide +kernel, rfl, by decide +kernel, by decide +kernel⟩
theorem ok_trimmed (T : Txt K mg) : Ok P w K mg base 2 (n_webs_trimmed) ["roads"] sp_trimmed := by
  refine ok_of T.f_webs_trimmed sc_trimmed (fun _ _ _ _ _ _ us hl => match us, hl with | [_], _ => rfl) (fun vs H Q E h => ?_) (fun f cdv A outer s H vs Q E hr h => ?_)
  · obtain ⟨a, prs, n, rs', rfl, _⟩ := h
    rfl
  · have hu := hu_of hr
    refine ⟨_, pss_cons (ps_set (i := 1) sc_trimmed.nd rfl (Or.inl rfl) (pe_callTy call_list_of (by rfl) T.b_list (by decide +kernel) (pa_cons (pv 0) pa_nil))) (pss_cons (ps_set (i := 2) sc_trimmed.nd rfl (Or.inl rfl) pe_bl) (pss_cons (ps_while (passes_of rfl) (pt_val (pv 2))
      (pss_cons (ps_set (i := 3) sc_trimmed.nd rfl (Or.inr rfl) (pe_op op_cat
          (pe_lc (own := [("road", 5)]) (g := gName 5) (tt := tYes) (te := tI K 5 0) rfl sc_trimmed.nd (pi_list (pv 1)) (blkOk_by (N := ["roads", "left", "cut", "ends", "kept", "road"]) (sc := defScope s_webs_trimmed) (by decide +kernel)) (fun _ _ _ _ _ => pg_name (i := 5) sc_trimmed.nd rfl (Or.inl rfl)) (fun _ _ _ _ _ => pts_nil) (fun _ _ _ _ _ => pe_ix ix_tup (pv 5) pe_int (fun _ _ => rfl)))
          (pe_lc (own := [("road", 5)]) (g := gName 5) (tt := tYes) (te := tI K 5 2) rfl sc_trimmed.nd (pi_list (pv 1)) (blkOk_by (N := ["roads", "left", "cut", "ends", "kept", "road"]) (sc := defScope s_webs_trimmed) (by decide +kernel)) (fun _ _ _ _ _ => pg_name (i := 5) sc_trimmed.nd rfl (Or.inl rfl)) (fun _ _ _ _ _ => pts_nil) (fun _ _ _ _ _ => pe_ix ix_tup (pv 5) pe_int (fun _ _ => rfl)))))
        (pss_cons (ps_setLc (i := 4) (own := [("road", 5)]) (g := gName 5) (tt := tAnd (tB (tCall sp_is_held [] E0 (tCons (tI K 5 0) (tCons (tVar 3) tNil)))) (tB (tCall sp_is_held [] E0 (tCons (tI K 5 2) (tCons (tVar 3) tNil))))) (te := tVar 5) rfl sc_trimmed.nd rfl rfl (sw_true rfl rfl rfl (by decide +kernel)) (pi_list (pv 1)) (blkOk_by (N := ["roads", "left", "cut", "ends", "kept", "road"]) (sc := defScope s_webs_trimmed) (by decide +kernel)) (fun _ _ _ _ _ => pg_name (i := 5) sc_trimmed.nd rfl (Or.inl rfl))
            (fun _ _ _ _ _ => pts_one (pw_and (pt_val (pe_ok (ok_is_held T) hr passL (pa_cons (pe_ix ix_tup (pv 5) pe_int (fun _ _ => rfl)) (pa_cons (pv 3) pa_nil)))) (pw_and1 (pt_val (pe_ok (ok_is_held T) hr passL (pa_cons (pe_ix ix_tup (pv 5) pe_int (fun _ _ => rfl)) (pa_cons (pv 3) pa_nil)))))).pt) (fun _ _ _ _ _ => pv 5))
          (pss_cons (ps_set (i := 2) sc_trimmed.nd rfl (Or.inl rfl) (pe_cmp (pc_lt (pe_callB call_len_seq (by rfl) T.b_len PySem.boot_len (pa_cons (pv 4) pa_nil)) (pe_callB call_len_seq (by rfl) T.b_len PySem.boot_len (pa_cons (pv 1) pa_nil)))))
            (pss_one (ps_set (i := 1) sc_trimmed.nd rfl (Or.inl rfl) (pv 4))))))) (pss_one (ps_ret (pv 1))))), ?_⟩
    obtain ⟨a, prs, n, rs', rfl, hs, hp, hn, ht, k⟩ := h
    refine ⟨_, rfl, a, prV prs, rfl, hs.imp SqL.of SqT.of, fun D hD => ⟨fun m σ H1 => ∃ D prs' c v3 v4 v5, σ = [some (.ref a), some (.ref D), some (.bl c), v3, v4, v5] ∧ Ext H H1 ∧ H D = none ∧ H1 D = some (.lst (prV prs')) ∧ PrsAt H1 prs' ∧ prs'.length ≤ prs.length ∧
      ((c = true ∧ trimW m (prs'.map (·.2)) = some rs') ∨ (c = false ∧ prs'.map (·.2) = rs')), ⟨n, D, prs, true, _, _, _, rfl, Ext.new hD, hD, upd_same, hp.ext (Ext.new hD), Nat.le_refl _, .inl ⟨rfl, ht⟩⟩, fun m σ H1 p => ?_⟩⟩
    obtain ⟨D, q, c, v3, v4, v5, rfl, x1, hD, hd, hq, hl, hc⟩ := p
    rcases hc with ⟨rfl, hc⟩ | ⟨rfl, hc⟩
    · cases m with
      | zero => cases hc
      | succ m =>
        have hcs : q.length ≤ sizeLine := big_of (by omega)
        refine ⟨_, rfl, true, rfl, fun σ' H' => ∃ D prs' c v3 v4 v5, σ' = [some (.ref a), some (.ref D), some (.bl c), v3, v4, v5] ∧ Ext H H' ∧ H D = none ∧ H' D = some (.lst (prV prs')) ∧ PrsAt H' prs' ∧ prs'.length ≤ prs.length ∧
          ((c = true ∧ trimW m (prs'.map (·.2)) = some rs') ∨ (c = false ∧ prs'.map (·.2) = rs')), fun _ _ p => ⟨m, Nat.lt_succ_self m, p⟩, ?_⟩
        refine ⟨_, rfl, D, rfl, ⟨_, SqL.of hd⟩, fun D1 hD1 => lc_all walk_list (q.map fun p => vN p.2.1) (by simp) hD1 (by simpa using hcs) (fun H' x => SqL.of (x _ _ hd)) (fun i r v Ha H2 Q' hr x2 y hq' => ?_) (fun H2 x2 hd1 => ?_)⟩
        · obtain ⟨rfl, hv⟩ := y
          obtain ⟨pp, hpp, rfl⟩ := prV_at hv
          rw [List.getElem?_map, hpp] at hr
          cases hr
          exact ⟨rfl, _, rfl, pp.1, _, _, _, rfl, rfl, SqT.of (x2 _ _ (hq pp (List.mem_of_getElem? hpp))), rfl, hq' _ Ext.rfl'⟩
        · refine ⟨_, rfl, D, rfl, ⟨_, SqL.of (x2 _ _ hd)⟩, fun D2 hD2 => lc_all walk_list (q.map fun p => vN p.2.2.2) (by simp) hD2 (by simpa using hcs) (fun H' x => SqL.of (x _ _ (x2 _ _ hd))) (fun i r v Ha H3 Q' hr x3 y hq' => ?_) (fun H3 x3 hd2 => ?_)⟩
          · obtain ⟨rfl, hv⟩ := y
            obtain ⟨pp, hpp, rfl⟩ := prV_at hv
            rw [List.getElem?_map, hpp] at hr
            cases hr
            exact ⟨rfl, _, rfl, pp.1, _, _, _, rfl, rfl, SqT.of (x3 _ _ (x2 _ _ (hq pp (List.mem_of_getElem? hpp)))), rfl, hq' _ Ext.rfl'⟩
          · refine ⟨D1, D2, _, _, rfl, rfl, x3 _ _ hd1, hd2, ?_, fun D3 hD3 => ?_⟩
            · rw [List.length_map, List.length_map]
              exact big_of (by omega)
            · have he : (q.map fun p => vN p.2.1) ++ (q.map fun p => vN p.2.2.2) = (endsOf (q.map (·.2))).map vN := by
                unfold endsOf
                rw [List.map_append, List.map_map, List.map_map, List.map_map, List.map_map]
                rfl
              rw [he]
              have x13 := (x2.trans x3).trans (Ext.new (o := .lst ((endsOf (q.map (·.2))).map vN)) hD3)
              refine ⟨_, rfl, D, rfl, ⟨_, SqL.of (x13 _ _ hd)⟩, fun D4 hD4 => lc_flt walk_list (fun i => q[i]?.bind fun p => if keepR (q.map (·.2)) p.2 = true then some (.ref p.1) else none) hD4 (by simpa using hcs) (fun H' x => SqL.of (x _ _ (x13 _ _ hd))) (fun i v Ha H4 Q' N hi x4 y hq' hn' => ?_) (fun H4 x4 hd4 => ?_)⟩
              · obtain ⟨rfl, hv⟩ := y
                obtain ⟨pp, hpp, rfl⟩ := prV_at hv
                rw [hpp] at hq' hn'
                have ht4 := x4 _ _ (x13 _ _ (hq pp (List.mem_of_getElem? hpp)))
                have hd3 := x4 _ _ (upd_same (H := H3) (a := D3) (o := .lst ((endsOf (q.map (·.2))).map vN)))
                refine ⟨rfl, _, rfl, pp.1, _, _, _, rfl, rfl, SqT.of ht4, rfl, _, rfl, pp.2.1, D3, _, rfl, hd3, _, rfl, ?_⟩
                have hk : keepR (q.map (·.2)) pp.2 = (held (endsOf (q.map (·.2))) pp.2.1 && held (endsOf (q.map (·.2))) pp.2.2.2) := rfl
                cases e1 : held (endsOf (q.map (·.2))) pp.2.1 with
                | false =>
                  rw [e1, Bool.false_and] at hk
                  exact hn' _ (by show (if keepR _ pp.2 = true then _ else _) = none; rw [if_neg (by rw [hk]; exact Bool.false_ne_true)]) Ext.rfl'
                | true =>
                  rw [e1, Bool.true_and] at hk
                  refine ⟨_, rfl, pp.1, _, _, _, rfl, rfl, SqT.of ht4, rfl, _, rfl, pp.2.2.2, D3, _, rfl, hd3, _, rfl, ?_⟩
                  cases e2 : held (endsOf (q.map (·.2))) pp.2.2.2 with
                  | false =>
                    rw [e2] at hk
                    exact hn' _ (by show (if keepR _ pp.2 = true then _ else _) = none; rw [if_neg (by rw [hk]; exact Bool.false_ne_true)]) Ext.rfl'
                  | true =>
                    rw [e2] at hk
                    exact ⟨_, rfl, hq' _ _ (by show (if keepR _ pp.2 = true then _ else _) = _; rw [if_pos hk]) Ext.rfl'⟩
              · rw [List.length_map, prs_flt q (keepR (q.map (·.2)))] at hd4
                have x14 := x13.trans x4
                refine ⟨_, rfl, D4, _, rfl, .inl (SqL.of hd4), _, rfl, D, _, rfl, .inl (SqL.of (x14 _ _ hd)), _, _, rfl, rfl, _, rfl, D4, q.filter (fun p => keepR (q.map (·.2)) p.2), _, _, _, _, rfl, x1.trans x14, (x1.trans x13).fresh hD4, hd4, (hq.ext x14).flt _, Nat.le_trans (List.length_filter_le _ _) hl, ?_⟩
                rw [snd_flt]
                unfold trimW at hc
                have e5 : ((prV (q.filter fun p => keepR (q.map (·.2)) p.2)).length) = ((q.map (·.2)).filter (keepR (q.map (·.2)))).length := by
                  rw [← snd_flt, List.length_map, List.length_map]
                have e6 : (prV q).length = (q.map (·.2)).length := by rw [List.length_map, List.length_map]
                split at hc
                · rename_i hlt
                  exact .inl ⟨decide_eq_true (by omega), hc⟩
                · rename_i hlt
                  exact .inr ⟨decide_eq_false (by omega), Option.some.inj hc⟩
    · exact ⟨_, rfl, false, rfl, _, rfl, k _ _ _ x1 hD hd hq hc hl⟩
/-! come_to -/
def sp_come_to : Sp := fun vs H Q _ => ∃ (d : Addr) (st : St) (n : Nat) (r : List Nat), vs = [.ref d] ∧ H d = some (.dT (kvT st)) ∧ comeW n st [0] 0 = some r ∧ r.length ≤ 4000000 ∧ ∀ H' D, Ext H H' → H D = none → H' D = some (.lst (r.map vN)) → Q (.ref D) H'
theorem sc_come_to : FnScope ["steps", "found", "at", "letter", "there"] ["steps"] (defScope s_webs_come_to) := ⟨rfl, rfl, rfl, by decide +kernel, rfl, by decide +kernel, by decide +kernel⟩
theorem ok_come_to (T : Txt K mg) : Ok P w K mg base 1 (n_webs_come_to) ["steps"] sp_come_to := by
  refine ok_of T.f_webs_come_to sc_come_to (fun _ _ _ _ _ _ us hl => match us, hl with | [_], _ => rfl) (fun vs H Q E h => ?_) (fun f cdv A outer s H vs Q E hr h => ?_)
  · obtain ⟨d, st, n, r, rfl, _⟩ := h
    rfl
  · have hu := hu_of hr
    refine ⟨_, pss_cons (ps_set (i := 1) sc_come_to.nd rfl (Or.inl rfl) (pe_lst (pa_cons pe_int pa_nil))) (pss_cons (ps_set (i := 2) sc_come_to.nd rfl (Or.inl rfl) pe_int) (pss_cons (ps_while (passes_of rfl) (pt_cmpR op_lt (pv 2) (pe_callB call_len_seq (by rfl) T.b_len PySem.boot_len (pa_cons (pv 1) pa_nil)) (nomark _))
      (pss_cons (ps_for (passes_of rfl) rfl (pi_str (pe_gs T.g_words_ORDER)) (pg_name (i := 3) sc_come_to.nd rfl (Or.inl rfl))
        (pss_cons (ps_set (i := 4) sc_come_to.nd rfl (Or.inl rfl) (pe_dget1 hu (pv 0) (pe_tup (pa_cons (pe_ix ix_list (pv 1) (pv 2) (fun _ _ => rfl)) (pa_cons (pv 3) pa_nil))) ⟨rfl, rfl, rfl, rfl⟩))
          (pss_one (ps_if (pw_and (pt_cmp (pc_notN (pv 4))) (pw_and1 (pt_cmpR op_notIn_seq (pv 4) (pv 1) rfl))).pt (pss_one (ps_expr (pe_bm PySem.F.plainAttrs_list PySem.F.slot_list_append PySem.F.type_list_append mt_append (pv 1) (pa_cons (pv 4) pa_nil)))) pss_nil))))
        (pss_one (ps_aug (i := 2) sc_come_to.nd rfl (Or.inl rfl) pe_int ip_add)))) (pss_one (ps_ret (pv 1))))), ?_⟩
    obtain ⟨d, st, n, r, rfl, hst, hc, hr2, k⟩ := h
    refine ⟨sz1, fun D hD => ⟨fun m σ H1 => ∃ f i v3 v4, σ = [some (.ref d), some (.ref D), some (vN i), v3, v4] ∧ Ext H H1 ∧ H1 D = some (.lst (f.map vN)) ∧ comeW m st f i = some r, ⟨n, [0], 0, _, _, rfl, Ext.new hD, upd_same, hc⟩, fun m σ H1 p => ?_⟩⟩
    obtain ⟨f, i, v3, v4, rfl, x1, hd, hcw⟩ := p
    refine ⟨_, rfl, _, rfl, D, _, rfl, .inl (SqL.of hd), _, _, rfl, rfl, _, rfl, ?_⟩
    rw [List.length_map]
    cases m with
    | zero => cases hcw
    | succ m =>
      unfold comeW at hcw
      cases hp : f[i]? with
      | none =>
        rw [hp] at hcw
        cases hcw
        have hge := List.getElem?_eq_none_iff.mp hp
        rw [if_neg (by simpa using hge)]
        exact ⟨_, rfl, k _ _ x1 hD hd⟩
      | some p =>
        rw [hp] at hcw
        have hcw : comeW m st (allL.foldl (stepC st p) f) (i + 1) = some r := hcw
        have hlt : i < f.length := (List.getElem?_eq_some_iff.mp hp).1
        have hFl := comeW_len hcw
        rw [if_pos (by simpa using hlt)]
        refine ⟨fun σ' H' => ∃ f i v3 v4, σ' = [some (.ref d), some (.ref D), some (vN i), v3, v4] ∧ Ext H H' ∧ H' D = some (.lst (f.map vN)) ∧ comeW m st f i = some r, fun _ _ p => ⟨m, Nat.lt_succ_self m, p⟩, ?_⟩
        refine ⟨oS, rfl, for_it walk_str (fun j σ H2 => ∃ f2 v3 v4, σ = [some (.ref d), some (.ref D), some (vN i), v3, v4] ∧ Ext H H2 ∧ H2 D = some (.lst (f2.map vN)) ∧ (allL.drop j).foldl (stepC st p) f2 = allL.foldl (stepC st p) f ∧ f2[i]? = some p) ⟨f, _, _, rfl, x1, hd, rfl, hp⟩ (fun _ _ _ _ _ => True.intro) (fun j y σ Ha H2 hj pp y => ?_) (fun σ H2 pp => ?_)⟩
        · obtain ⟨f2, v3, v4, rfl, x2, hd2, hf2, hp2⟩ := pp
          obtain ⟨rfl, c, hc, rfl⟩ := y
          obtain ⟨x, hx, rfl⟩ := oS_at hc
          rw [drop_at hx, List.foldl_cons] at hf2
          refine ⟨_, rfl, d, rfl, .inr ⟨_, .of (x2 _ _ hst)⟩, _, rfl, _, rfl, D, f2.map vN, (i : Int), vN p, rfl, rfl, SqL.of hd2, atI_nat (by rw [List.getElem?_map, hp2]; rfl), _, rfl, sz2, fun t ht => ?_⟩
          have x3 : Ext H (upd H2 t (.tup [vN p, .str (lS x)])) := x2.trans (Ext.new ht)
          have hd3 : upd H2 t (.tup [vN p, .str (lS x)]) D = some (.lst (f2.map vN)) := (Ext.new ht) _ _ hd2
          have hg := dget_st (k := (p, x)) (x3 _ _ hst) (upd_same (H := H2) (a := t) (o := .tup [vN p, .str (lS x)]))
          cases e : getA st (p, x) with
          | none =>
            rw [e] at hg
            refine ⟨none, hg, _, rfl, _, rfl, f2, _, _, rfl, x3, hd3, ?_, hp2⟩
            rw [← hf2]
            unfold stepC
            rw [e]
          | some q =>
            rw [e] at hg
            refine ⟨some (vN q), hg, _, rfl, _, rfl, _, rfl, _, rfl, D, f2.map vN, rfl, .inl (SqL.of hd3), rfl, flat_N f2, _, rfl, ?_⟩
            show if (!inV (vN q) (f2.map vN)) = true then _ else _
            rw [inV_N]
            have hs : stepC st p f2 x = if q ∈ f2 then f2 else f2 ++ [q] := by
              unfold stepC
              rw [e]
            by_cases hq : q ∈ f2
            · rw [decide_eq_true hq]
              refine ⟨f2, _, _, rfl, x3, hd3, ?_, hp2⟩
              rw [← hf2, hs, if_pos hq]
            · rw [decide_eq_false hq]
              have hl2 := foldC_len st p (allL.drop (j + 1)) (stepC st p f2 x)
              rw [hf2, hs, if_neg hq, List.length_append] at hl2
              refine ⟨_, rfl, .inl ⟨rfl, _, SqL.of hd3⟩, _, rfl, D, _, _, rfl, rfl, hd3, ?_, f2 ++ [q], _, _, rfl, Ext.put hD x3, ?_, ?_, ?_⟩
              · rw [List.length_map]
                exact big_lt (by omega)
              · rw [upd_same, List.map_append]
                rfl
              · rw [← hf2, hs, if_neg hq]
              · rw [List.getElem?_append_left (List.getElem?_eq_some_iff.mp hp2).1]
                exact hp2
        · obtain ⟨f2, v3, v4, rfl, x2, hd2, hf2, hp2⟩ := pp
          rw [List.drop_eq_nil_of_le (by rw [allL_len]; exact Nat.le_refl _)] at hf2
          have hf2 : f2 = allL.foldl (stepC st p) f := hf2
          refine ⟨_, rfl, _, _, rfl, rfl, f2, i + 1, _, _, rfl, x2, hd2, ?_⟩
          rw [hf2]
          exact hcw
end
end BW


set_option Elab.async false
set_option linter.all false
set_option maxRecDepth 100000
set_option maxHeartbeats 4000000
namespace BW
open PySem PySem.Spec PyProof.Rows L2 BwR BwE BwD BwS
section
variable {P : Program} {w : World} {K : PySem.W.Frag} {mg : Str → Option Value} {base : Heap}
/-! Web.__init__ -/
def webF (m : Nat) (d t : Addr) : List (Str × V) := [("size", vN m), ("steps", .ref d), ("kept", .ref t)]
structure GoodW (m : Nat) (rs : List Ro) (st : St) : Prop where
  one : 1 ≤ m
  most : m ≤ 200
  low : ∀ r ∈ rs, lo r.2.1 = true
  inr : ∀ r ∈ rs, inR m r = true
  steps : stepsOf rs = some st
  few : rs.length < 77
def sp_Web_init (K : PySem.W.Frag) : Sp := fun vs H Q _ => ∃ (p dx a : Addr) (m : Nat) (prs : List (Addr × Ro)) (st : St), vs = [.ref p, vN m, .ref a] ∧ H p = some (.ins (He.ga K "Web") dx []) ∧ H a = some (.lst (prV prs)) ∧ PrsAt H prs ∧ GoodW m (prs.map (·.2)) st ∧
  ∀ H' d t prs', Ext1 p H H' → H' p = some (.ins (He.ga K "Web") dx (webF m d t)) → H' d = some (.dT (kvT st)) → H' t = some (.tup (prV prs')) → PrsAt H' prs' → KeptOf (prs.map (·.2)) (prs'.map (·.2)) → Q .non H'
theorem sc_Web_init : FnScope ["self", "many", "roads", "steps", "road"] ["self", "many", "roads"] (defScope s_webs_Web___init__) := ⟨rfl, rfl, rfl, by decide +kernel, rfl, by decide +kernel, by decide +kernel⟩
theorem ok_Web_init (T : Txt K mg) : OkI P w K mg base 3 "Web" ["self", "many", "roads"] (sp_Web_init K) := by
  refine okI_of T.f_webs_Web___init__ sc_Web_init (fun _ _ _ _ _ _ us hl => match us, hl with | [_, _, _], _ => rfl) (fun vs H Q E h => ?_) (fun f cdv A outer s H vs Q E hr h => ?_)
  · obtain ⟨p, dx, a, m, prs, st, rfl, _⟩ := h
    rfl
  · have hu := hu_of hr
    have hu2 := hr.units
    refine ⟨_, pss_cons (ps_if (pw_or (pt_not (pt_val (pe_ok (ok_is_whole T) (hr.mono (by decide)) passL (pa_cons (pv 1) pa_nil)))) (pw_or (pt_not (pt_chain op_le op_le pe_int (pv 1) (pe_gi T.g_webs_MOST_PLACES)))
        (pw_or1 (pt_not (pt_val (pe_callB call_isi (by rfl) T.b_isinstance (by decide +kernel) (pa_cons (pv 2) (pa_cons (pe_bltn (v := .ty "list") (u := .type "list") (by rfl) T.b_list rfl rfl) pa_nil)))))))).pt pss_never pss_nil)
      (pss_cons (ps_if (pt_not (pt_val (pe_callB (cr_all rfl) (by rfl) T.b_all (by decide +kernel) (pa_cons (pe_lc (own := [("road", 4)]) (g := gName 4) (tt := tYes) (te := tCall sp_is_road [] E0 (tCons (tVar 4) (tCons (tVar 1) tNil))) rfl sc_Web_init.nd (pi_list (pv 2)) (blkOk_by (N := ["self", "many", "roads", "steps", "road"]) (sc := defScope s_webs_Web___init__) (by decide +kernel))
          (fun _ _ _ _ _ => pg_name (i := 4) sc_Web_init.nd rfl (Or.inl rfl)) (fun _ _ _ _ _ => pts_nil) (fun _ _ _ _ _ => pe_ok (ok_is_road T) hr passL (pa_cons (pv 4) (pa_cons (pv 1) pa_nil)))) pa_nil)))) pss_never pss_nil)
        (pss_cons (ps_set (i := 3) sc_Web_init.nd rfl (Or.inl rfl) (pe_ok (ok_steps_of T) hr passL (pa_cons (pv 2) pa_nil)))
          (pss_cons (ps_if (pt_cmp (pc_isN (pv 3))) pss_never pss_nil)
            (pss_cons (ps_fld (pv 0) (pv 1) rfl) (pss_cons (ps_fld (pv 0) (pv 3) rfl) (pss_one (ps_fld (pv 0) (pe_callTy call_tuple_of (by rfl) T.b_tuple (by decide +kernel) (pa_cons (pe_callB (cr_sortM rfl) (by rfl) T.b_sorted (by decide +kernel) (pa_cons (pe_callTy (cr_setM rfl hu2) (by rfl) T.b_set (by decide +kernel) (pa_cons (pv 2) pa_nil)) pa_nil)) pa_nil)) rfl))))))), ?_⟩
    obtain ⟨p, dx, a, m, prs, st, rfl, hp, ha, hprs, gd, k⟩ := h
    have c1 : decide ((1 : Int) ≤ (m : Int)) = true := by have := gd.one; simp; omega
    have c2 : decide ((m : Int) ≤ 200) = true := by simp; have := gd.most; omega
    have hz : prs.length < 77 := by have := gd.few; rwa [List.length_map] at this
    have hsz : prs.length ≤ sizeLine := big_of (by omega)
    refine ⟨_, rfl, _, _, rfl, .inl ⟨_, rfl, rfl⟩, true, rfl, _, rfl, 1, _, rfl, rfl, true, congrArg V.bl c1, _, _, rfl, rfl, true, congrArg V.bl c2, _, rfl, _, _, _, _, true, rfl, .ty "list", .base (.lst ha), kit_ty (by decide +kernel), true, rfl, ?_⟩
    refine ⟨_, rfl, a, rfl, ⟨_, SqL.of ha⟩, fun D hD => lc_all walk_list (prs.map fun _ => V.bl true) (by simp) hD (by simpa using hsz) (fun H' x => SqL.of (x _ _ ha)) (fun i r v Ha H2 Q' hr2 x2 y hq' => ?_) (fun H2 x2 hd2 => ?_)⟩
    · obtain ⟨rfl, hv⟩ := y
      obtain ⟨pp, hpp, rfl⟩ := prV_at hv
      have hm := List.mem_of_getElem? hpp
      rw [List.getElem?_map, hpp] at hr2
      cases hr2
      have e := gd.inr pp.2 (List.mem_map_of_mem hm)
      refine ⟨rfl, _, rfl, _, rfl, pp.1, pp.2, m, rfl, x2 _ _ (hprs pp hm), gd.low pp.2 (List.mem_map_of_mem hm), ?_⟩
      rw [e]
      exact hq' _ Ext.rfl'
    · refine ⟨D, prs.map fun _ => true, rfl, SqL.of (by rw [hd2, List.map_map]; rfl), _, rfl, ?_⟩
      have e : (prs.map fun _ => true).all id = true := by simp
      rw [e]
      have ha2 := x2 _ _ ha
      refine ⟨_, rfl, a, prs.map (·.1), prs.map (·.2), rfl, .inl (by rw [← prV_rfs]; exact ha2), (hprs.ext x2).tups, by have := gd.few; omega, .inr ⟨st, gd.steps, fun H3 d x3 hd3 hd => ?_⟩⟩
      have hp3 := (x2.trans x3) _ _ hp
      have ha3 := (x2.trans x3) _ _ ha
      refine ⟨_, rfl, _, rfl, _, rfl, _, rfl, p, _, dx, [], rfl, hp3, T.c_Web.2, T.n_Web_size, by decide, ?_⟩
      have y0 : Ext1 p H (upd H3 p (.ins (He.ga K "Web") dx (putF "size" (vN m) []))) := (x2.trans x3).e1.put _
      refine ⟨_, rfl, _, rfl, p, _, dx, _, rfl, upd_same, T.c_Web.2, T.n_Web_steps, (by show 1 < 1000; decide), ?_⟩
      have y1 := y0.put (.ins (He.ga K "Web") dx (putF "steps" (.ref d) (putF "size" (vN m) [])))
      have nd : d ≠ p := fun e => by
        rw [e, hp3] at hd
        cases hd
      have na : a ≠ p := ne_at ha hp (fun z => nomatch z)
      have g1 : upd (upd H3 p (.ins (He.ga K "Web") dx (putF "size" (vN m) []))) p (.ins (He.ga K "Web") dx (putF "steps" (.ref d) (putF "size" (vN m) []))) p = some (.ins (He.ga K "Web") dx [("size", vN m), ("steps", .ref d)]) := upd_same
      have g2 : upd (upd H3 p (.ins (He.ga K "Web") dx (putF "size" (vN m) []))) p (.ins (He.ga K "Web") dx (putF "steps" (.ref d) (putF "size" (vN m) []))) d = some (.dT (kvT st)) := by rw [upd_ne nd, upd_ne nd]; exact hd
      revert y1 g1 g2
      generalize upd (upd H3 p (.ins (He.ga K "Web") dx (putF "size" (vN m) []))) p (.ins (He.ga K "Web") dx (putF "steps" (.ref d) (putF "size" (vN m) []))) = H5
      intro y1 g1 g2
      have ha5 := y1 _ _ na ha
      have hk5 : PrsAt H5 prs := fun q hq => y1 _ _ (ne_at (hprs q hq) hp (fun z => nomatch z)) (hprs q hq)
      refine ⟨_, rfl, a, prs.map encR, rfl, SqL.of (by rw [ha5, List.map_map]; rfl), fun m hm => ?_, by rw [List.length_map]; exact hz, fun aS L hS h1 h2 hnd => ?_⟩
      · obtain ⟨q, hq, rfl⟩ := List.mem_map.mp hm
        exact SqT.of (hk5 q hq)
      · have w1 : Ext H5 (upd H5 aS (SetMO P w aS L)) := Ext.new hS
        refine ⟨aS, L, rfl, upd_same, fun m hm => ?_, fun m hm m' hm' => ?_, fun m hm => ?_, fun m hm => ?_, fun L' pS pm hl hpS => ?_⟩
        · obtain ⟨q, hq, rfl⟩ := List.mem_map.mp (h1 m hm)
          exact SqT.of (w1 _ _ (hk5 q hq))
        · obtain ⟨q, hq, rfl⟩ := List.mem_map.mp (h1 m hm)
          obtain ⟨q', hq', rfl⟩ := List.mem_map.mp (h1 m' hm')
          exact alike_e q q'
        · obtain ⟨q, hq, rfl⟩ := List.mem_map.mp (h1 m hm)
          exact fun z => nomatch z
        · obtain ⟨q, hq, rfl⟩ := List.mem_map.mp (h1 m hm)
          rw [dep_e]
          show (A.deeper (envOfC _ _ _ _ _)).units + 2 + 1 < cLine
          omega
        · obtain ⟨prs', rfl, hsub, hk⟩ := kept_of h1 h2 hnd pm
          have w2 : Ext H5 (upd (upd H5 aS (SetMO P w aS L)) pS (.lst ((prs'.map encR).map fun q => V.ref q.1))) := w1.trans (Ext.new hpS)
          refine ⟨pS, _, rfl, .inl ⟨SqL.of upd_same, fun lt hlt => ?_⟩⟩
          have w3 : Ext H5 (upd (upd (upd H5 aS (SetMO P w aS L)) pS (.lst ((prs'.map encR).map fun q => V.ref q.1))) lt (.tup ((prs'.map encR).map fun q => V.ref q.1))) := w2.trans (Ext.new hlt)
          have g3 : upd (upd (upd H5 aS (SetMO P w aS L)) pS (.lst ((prs'.map encR).map fun q => V.ref q.1))) lt (.tup ((prs'.map encR).map fun q => V.ref q.1)) lt = some (.tup (prV prs')) := by rw [upd_same, List.map_map]; rfl
          have g4 := w3 _ _ g1
          refine ⟨_, rfl, p, _, dx, _, rfl, g4, T.c_Web.2, T.n_Web_kept, (by show 2 < 1000; decide), ?_⟩
          have nl : lt ≠ p := ne_at g3 g4 (fun z => nomatch z)
          refine k _ d lt prs' ((y1.trans w3.e1).put _) upd_same ?_ ?_ ?_ hk
          · rw [upd_ne nd]
            exact w3 _ _ g2
          · rw [upd_ne nl]
            exact g3
          · intro q hq
            have h5 := hk5 q (hsub q hq)
            rw [upd_ne (ne_at h5 g1 (fun z => nomatch z))]
            exact w3 _ _ h5
end
end BW


set_option Elab.async false
set_option linter.all false
set_option maxRecDepth 100000
set_option maxHeartbeats 4000000
namespace BW
open PySem PySem.Spec PyProof.Rows L2 BwR BwE BwD BwS
section
variable {P : Program} {w : World} {K : PySem.W.Frag} {mg : Str → Option Value} {base : Heap}
/-! a web in the heap -/
def WebAt (K : PySem.W.Frag) (H : Hp) (p : Addr) (m : Nat) (st : St) (kept : List Ro) : Prop := ∃ dx d t prs, H p = some (.ins (He.ga K "Web") dx (webF m d t)) ∧ H d = some (.dT (kvT st)) ∧ H t = some (.tup (prV prs)) ∧ PrsAt H prs ∧ prs.map (·.2) = kept
theorem WebAt.ext {H H' : Hp} {p : Addr} {m : Nat} {st : St} {kept : List Ro} (h : WebAt K H p m st kept) (x : Ext H H') : WebAt K H' p m st kept := by
  obtain ⟨dx, d, t, prs, h1, h2, h3, h4, h5⟩ := h
  exact ⟨dx, d, t, prs, x _ _ h1, x _ _ h2, x _ _ h3, h4.ext x, h5⟩
/-! Web.many, Web.roads, Web.step -/
def sp_Web_many (K : PySem.W.Frag) : Sp := fun vs H Q _ => ∃ p m st kept, vs = [.ref p] ∧ WebAt K H p m st kept ∧ Q (vN m) H
theorem sc_Web_many : FnScope ["self"] ["self"] (defScope s_webs_Web_many) := ⟨rfl, rfl, rfl, by decide +kernel, rfl, by decide +kernel, by decide +kernel⟩
theorem ok_Web_many (T : Txt K mg) : OkM P w K mg base 1 "Web" "many" ["self"] (sp_Web_many K) := by
  refine okM_of T.f_webs_Web_many sc_Web_many (fun _ _ _ _ _ _ us hl => match us, hl with | [_], _ => rfl) (fun vs H Q E h => ?_) (fun f cdv A outer s H vs Q E hr h => ?_)
  · obtain ⟨p, m, st, kept, rfl, _⟩ := h
    rfl
  · refine ⟨_, pss_one (ps_ret (pe_fld (pv 0) rfl)), ?_⟩
    obtain ⟨p, m, st, kept, rfl, ⟨dx, d, t, prs, h1, h2, h3, h4, h5⟩, k⟩ := h
    exact ⟨_, rfl, p, _, dx, _, _, rfl, h1, T.c_Web.2, T.n_Web_size, rfl, k⟩
def sp_Web_roads (K : PySem.W.Frag) : Sp := fun vs H Q _ => ∃ p m st kept, vs = [.ref p] ∧ WebAt K H p m st kept ∧ ∀ H' D prs, Ext H H' → H D = none → H' D = some (.lst (prV prs)) → PrsAt H' prs → prs.map (·.2) = kept → Q (.ref D) H'
theorem sc_Web_roads : FnScope ["self"] ["self"] (defScope s_webs_Web_roads) := ⟨rfl, rfl, rfl, by decide +kernel, rfl, by decide +kernel, by decide +kernel⟩
theorem ok_Web_roads (T : Txt K mg) : OkM P w K mg base 1 "Web" "roads" ["self"] (sp_Web_roads K) := by
  refine okM_of T.f_webs_Web_roads sc_Web_roads (fun _ _ _ _ _ _ us hl => match us, hl with | [_], _ => rfl) (fun vs H Q E h => ?_) (fun f cdv A outer s H vs Q E hr h => ?_)
  · obtain ⟨p, m, st, kept, rfl, _⟩ := h
    rfl
  · refine ⟨_, pss_one (ps_ret (pe_callTy call_list_of (by rfl) T.b_list (by decide +kernel) (pa_cons (pe_fld (pv 0) rfl) pa_nil))), ?_⟩
    obtain ⟨p, m, st, kept, rfl, ⟨dx, d, t, prs, h1, h2, h3, h4, h5⟩, k⟩ := h
    exact ⟨_, rfl, p, _, dx, _, _, rfl, h1, T.c_Web.2, T.n_Web_kept, rfl, t, _, rfl, .inr (SqT.of h3), fun D hD => k _ D prs (Ext.new hD) hD upd_same (h4.ext (Ext.new hD)) h5⟩
def sp_Web_step (K : PySem.W.Frag) : Sp := fun vs H Q _ => ∃ (p : Addr) (m : Nat) (st : St) (kept : List Ro) (q : Nat) (x : L), vs = [.ref p, vN q, .str (lS x)] ∧ WebAt K H p m st kept ∧ ∀ H', Ext H H' → Q (((getA st (q, x)).map vN).getD .non) H'
theorem sc_Web_step : FnScope ["self", "place", "letter"] ["self", "place", "letter"] (defScope s_webs_Web_step) := ⟨rfl, rfl, rfl, by decide +kernel, rfl, by decide +kernel, by decide +kernel⟩
theorem ok_Web_step (T : Txt K mg) : OkM P w K mg base 1 "Web" "step" ["self", "place", "letter"] (sp_Web_step K) := by
  refine okM_of T.f_webs_Web_step sc_Web_step (fun _ _ _ _ _ _ us hl => match us, hl with | [_, _, _], _ => rfl) (fun vs H Q E h => ?_) (fun f cdv A outer s H vs Q E hr h => ?_)
  · obtain ⟨p, m, st, kept, q, x, rfl, _⟩ := h
    rfl
  · refine ⟨_, pss_one (ps_ret (pe_dget1 (hu_of hr) (pe_fld (pv 0) rfl) (pe_tup (pa_cons (pv 1) (pa_cons (pv 2) pa_nil))) ⟨rfl, rfl, rfl, rfl⟩)), ?_⟩
    obtain ⟨p, m, st, kept, q, x, rfl, ⟨dx, d, t, prs, h1, h2, h3, h4, h5⟩, k⟩ := h
    exact ⟨_, rfl, p, _, dx, _, _, rfl, h1, T.c_Web.2, T.n_Web_steps, rfl, d, rfl, .inr ⟨_, .of h2⟩, _, rfl, _, rfl, sz2, fun t ht => ⟨_, dget_st (k := (q, x)) ((Ext.new ht) _ _ h2) upd_same, k _ (Ext.new ht)⟩⟩
/-! plain_of -/
def renum (ord : List Nat) (r : Ro) : Ro := (ord.idxOf r.1, r.2.1, ord.idxOf r.2.2)
structure PlainOf (rs : List Ro) (m : Nat) (rs2 : List Ro) (st2 : St) : Prop where
  ex : ∃ (st : St) (f : List Nat) (n1 : Nat) (left : List Ro) (n2 : Nat) (st' : St) (ord : List Nat) (n3 : Nat), stepsOf rs = some st ∧ comeW n1 st [0] 0 = some f ∧ f.length ≤ 4000000 ∧ trimW n2 (rs.filter fun r => decide (r.1 ∈ f)) = some left ∧ stepsOf left = some st' ∧
    comeW n3 st' [0] 0 = some ord ∧ (∀ r ∈ left, r.1 ∈ ord ∧ r.2.2 ∈ ord) ∧ m = ord.length ∧ rs2 = left.map (renum ord)
  good : GoodW m rs2 st2
def sp_plain_of (K : PySem.W.Frag) : Sp := fun vs H Q _ => ∃ (a : Addr) (prs : List (Addr × Ro)) (m : Nat) (rs2 : List Ro) (st2 : St), vs = [.ref a] ∧ SqAt H a (prV prs) ∧ PrsAt H prs ∧ prs.length ≤ 4000000 ∧ PlainOf (prs.map (·.2)) m rs2 st2 ∧
  ∀ H' p kept, Ext H H' → H p = none → WebAt K H' p m st2 kept → KeptOf rs2 kept → Q (.ref p) H'
theorem sc_plain_of : FnScope ["roads", "reached", "left", "order", "road"] ["roads"] (defScope s_webs_plain_of) := ⟨rfl, rfl, rfl, by decide +kernel, rfl, by decide +kernel, by decide +kernel⟩
theorem ok_plain_of (T : Txt K mg) : Ok P w K mg base 5 (n_webs_plain_of) ["roads"] (sp_plain_of K) := by
  refine ok_of T.f_webs_plain_of sc_plain_of (fun _ _ _ _ _ _ us hl => match us, hl with | [_], _ => rfl) (fun vs H Q E h => ?_) (fun f cdv A outer s H vs Q E hr h => ?_)
  · obtain ⟨a, prs, m, rs2, st2, rfl, _⟩ := h
    rfl
  · have hu := hu_of hr
    refine ⟨_, pss_cons (ps_set (i := 1) sc_plain_of.nd rfl (Or.inr rfl) (pe_ok (ok_come_to T) (hr.mono (by decide)) passL (pa_cons (pe_ok (ok_steps_of T) (hr.mono (by decide)) passL (pa_cons (pv 0) pa_nil)) pa_nil)))
      (pss_cons (ps_set (i := 2) sc_plain_of.nd rfl (Or.inl rfl) (pe_ok (ok_trimmed T) (hr.mono (by decide)) passL (pa_cons (pe_lc (own := [("road", 4)]) (g := gName 4) (tt := tTest (tOp (rIn K false) (tI K 4 0) (tVar 1))) (te := tVar 4) rfl sc_plain_of.nd (pi_sq (pv 0)) (blkOk_by (N := ["roads", "reached", "left", "order", "road"]) (sc := defScope s_webs_plain_of) (by decide +kernel))
          (fun _ _ _ _ _ => pg_name (i := 4) sc_plain_of.nd rfl (Or.inl rfl)) (fun _ _ _ _ _ => pts_one (pt_cmpR op_in_seq (pe_ix ix_tup (pv 4) pe_int (fun _ _ => rfl)) (pv 1) rfl)) (fun _ _ _ _ _ => pv 4)) pa_nil)))
        (pss_cons (ps_set (i := 3) sc_plain_of.nd rfl (Or.inr rfl) (pe_ok (ok_come_to T) (hr.mono (by decide)) passL (pa_cons (pe_ok (ok_steps_of T) (hr.mono (by decide)) passL (pa_cons (pv 2) pa_nil)) pa_nil)))
          (pss_one (ps_ret (pe_okI (ok_Web_init T) T.c_Web hr passL (pa_cons (pe_callB call_len_seq (by rfl) T.b_len PySem.boot_len (pa_cons (pv 3) pa_nil)) (pa_cons
            (pe_lc (own := [("road", 4)]) (g := gName 4) (tt := tYes) (te := tTup (tCons (tBM K "list" (rIndex K) (tVar 3) (tCons (tI K 4 0) tNil)) (tCons (tI K 4 1) (tCons (tBM K "list" (rIndex K) (tVar 3) (tCons (tI K 4 2) tNil)) tNil)))) rfl sc_plain_of.nd (pi_list (pv 2)) (blkOk_by (N := ["roads", "reached", "left", "order", "road"]) (sc := defScope s_webs_plain_of) (by decide +kernel))
              (fun _ _ _ _ _ => pg_name (i := 4) sc_plain_of.nd rfl (Or.inl rfl)) (fun _ _ _ _ _ => pts_nil)
              (fun _ _ _ _ _ => pe_tup (pa_cons (pe_bm PySem.F.plainAttrs_list PySem.F.slot_list_index PySem.F.type_list_index mt_index (pv 3) (pa_cons (pe_ix ix_tup (pv 4) pe_int (fun _ _ => rfl)) pa_nil)) (pa_cons (pe_ix ix_tup (pv 4) pe_int (fun _ _ => rfl)) (pa_cons (pe_bm PySem.F.plainAttrs_list PySem.F.slot_list_index PySem.F.type_list_index mt_index (pv 3) (pa_cons (pe_ix ix_tup (pv 4) pe_int (fun _ _ => rfl)) pa_nil)) pa_nil))))) pa_nil))))))), ?_⟩
    obtain ⟨a, prs, m, rs2, st2, rfl, hs, hp, hn, ⟨⟨st, f, n1, left, n2, st', ord, n3, e1, e2, hfl, e3, e4, e5, hio, rfl, rfl⟩, gd⟩, k⟩ := h
    obtain ⟨J, G, hJ, wk, hG⟩ := sq_walk K hs
    have hsz : prs.length ≤ sizeLine := big_of (by omega)
    refine ⟨_, rfl, a, prs.map (·.1), prs.map (·.2), rfl, by rw [← prV_rfs]; exact hs, hp.tups, by rw [List.length_map]; exact hn, .inr ⟨st, e1, fun H1 d x1 _ hd => ⟨d, st, n1, f, rfl, hd, e2, hfl, fun H2 D x2 _ hD => ?_⟩⟩⟩
    have x12 := x1.trans x2
    refine ⟨_, rfl, a, J, rfl, hJ _ x12, fun D4 hD4 => lc_flt wk (fun i => prs[i]?.bind fun p => if decide (p.2.1 ∈ f) = true then some (.ref p.1) else none) hD4 (by simpa using hsz) (fun H' x => hG _ (x12.trans x)) (fun i v Ha H3 Q' N hi x3 y hq hnn => ?_) (fun H3 x3 hd4 => ?_)⟩
    · obtain ⟨rfl, hv⟩ := y
      obtain ⟨pp, hpp, rfl⟩ := prV_at hv
      rw [hpp] at hq hnn
      refine ⟨rfl, _, rfl, pp.1, _, _, _, rfl, rfl, SqT.of ((x12.trans x3) _ _ (hp pp (List.mem_of_getElem? hpp))), rfl, _, rfl, D, f.map vN, rfl, .inl (SqL.of (x3 _ _ hD)), rfl, flat_N f, _, rfl, ?_⟩
      show if inV (vN pp.2.1) (f.map vN) = true then _ else _
      rw [inV_N]
      by_cases hf : pp.2.1 ∈ f
      · rw [if_pos (decide_eq_true hf)]
        exact ⟨_, rfl, hq _ _ (by show (if decide (pp.2.1 ∈ f) = true then _ else _) = _; rw [if_pos (decide_eq_true hf)]) Ext.rfl'⟩
      · rw [if_neg (by rw [decide_eq_false hf]; exact Bool.false_ne_true)]
        exact hnn _ (by show (if decide (pp.2.1 ∈ f) = true then _ else _) = _; rw [if_neg (by rw [decide_eq_false hf]; exact Bool.false_ne_true)]) Ext.rfl'
    · rw [List.length_map, prs_flt prs (fun r => decide (r.1 ∈ f))] at hd4
      have x13 := x12.trans x3
      refine ⟨D4, prs.filter (fun p => decide (p.2.1 ∈ f)), n2, left, rfl, .inl hd4, (hp.ext x13).flt _, Nat.le_trans (List.length_filter_le _ _) hn, by rw [← e3, ← snd_flt], fun H4 D5 prs5 x4 _ hd5 hp5 e6 hl5 => ?_⟩
      have hl5' : prs5.length ≤ 4000000 := Nat.le_trans hl5 (Nat.le_trans (List.length_filter_le _ _) hn)
      have x14 := x13.trans x4
      refine ⟨_, rfl, D5, prs5.map (·.1), prs5.map (·.2), rfl, .inl (by rw [← prV_rfs]; exact hd5), hp5.tups, by rw [List.length_map]; exact hl5', .inr ⟨st', by rw [e6]; exact e4, fun H5 d5 x5 _ hdd => ⟨d5, st', n3, ord, rfl, hdd, e5, by have := gd.most; omega, fun H6 D6 x6 _ hD6 => ?_⟩⟩⟩
      have x56 := x5.trans x6
      have hd56 := x56 _ _ hd5
      refine ⟨_, rfl, D6, _, rfl, .inl (SqL.of hD6), _, rfl, D5, rfl, ⟨_, SqL.of hd56⟩, fun D7 hD7 => lc_rel walk_list (fun i v H => ∃ t r, v = V.ref t ∧ (left.map (renum ord))[i]? = some r ∧ H t = some (.tup (rV r)))
        (fun i v H H' ⟨t, r, h1, h2, h3⟩ x => ⟨t, r, h1, h2, x _ _ (fun l z => nomatch z) h3⟩) hD7 (by rw [List.length_map]; exact big_of (by omega)) (fun H' x => SqL.of (x _ _ hd56)) (fun i v Ha H7 Q' hi x7 y hq => ?_) (fun H7 xs x7 hd7 hl7 hr7 => ?_)⟩
      · obtain ⟨rfl, hv⟩ := y
        obtain ⟨pp, hpp, rfl⟩ := prV_at hv
        have hm := List.mem_of_getElem? hpp
        have ht := (x56.trans x7) _ _ (hp5 pp hm)
        have hml : pp.2 ∈ left := by rw [← e6]; exact List.mem_map_of_mem hm
        have ho := x7 _ _ hD6
        obtain ⟨i1, i2⟩ := hio pp.2 hml
        refine ⟨rfl, _, rfl, .inl ⟨rfl, _, SqL.of ho⟩, _, rfl, pp.1, _, _, _, rfl, rfl, SqT.of ht, rfl, D6, _, vN pp.2.1, _, _, rfl, rfl, SqL.of ho, rfl, flat_N ord, idx_at i1, by rw [eqV_N]; exact decide_eq_true rfl, fun m' z' a b => idx_before a b, ?_⟩
        refine ⟨_, rfl, pp.1, _, _, _, rfl, rfl, SqT.of ht, rfl, ?_⟩
        refine ⟨_, rfl, .inl ⟨rfl, _, SqL.of ho⟩, _, rfl, pp.1, _, _, _, rfl, rfl, SqT.of ht, rfl, D6, _, vN pp.2.2.2, _, _, rfl, rfl, SqL.of ho, rfl, flat_N ord, idx_at i2, by rw [eqV_N]; exact decide_eq_true rfl, fun m' z' a b => idx_before a b, sz3, fun tn htn => ?_⟩
        refine hq _ _ (Ext.new htn) ⟨tn, renum ord pp.2, rfl, ?_, upd_same⟩
        rw [← e6, List.map_map, List.getElem?_map, hpp]
        rfl
      · rw [List.length_map] at hl7
        obtain ⟨prs7, rfl, hp7, e7⟩ := prs_rel (rs := left.map (renum ord)) (by rw [hl7, ← e6, List.length_map, List.length_map]) hr7
        intro pW dxW h1 h2 h3
        have w1 := ext_ins (o := .ins (He.ga K "Web") dxW []) (u := .own pW) h1 h2 h3
        refine ⟨pW, dxW, D7, ord.length, prs7, st2, by rw [List.length_map]; rfl, upd_same, w1 _ _ hd7, hp7.ext w1, by rw [e7]; exact gd, fun H8 d t prs8 y8 g1 g2 g3 g4 g5 => ⟨rfl, ?_⟩⟩
        have x17 := (x14.trans x56).trans x7
        have n8 := x17.fresh h1
        refine k _ pW _ (Ext1.ext (x17.trans w1) y8 n8) n8 ⟨dxW, d, t, prs8, g1, g2, g3, g4, rfl⟩ ?_
        rw [← e7]
        exact g5
end
end BW


set_option Elab.async false
set_option linter.all false
set_option maxRecDepth 100000
set_option maxHeartbeats 4000000
namespace BW
open PySem PySem.Spec PyProof.Rows L2 BwR BwE BwD BwS
section
variable {P : Program} {w : World} {K : PySem.W.Frag} {mg : Str → Option Value} {base : Heap}
/-! Web.plain -/
def sp_Web_plain (K : PySem.W.Frag) : Sp := fun vs H Q _ => ∃ (p : Addr) (m : Nat) (st : St) (kept : List Ro) (m2 : Nat) (rs2 : List Ro) (st2 : St), vs = [.ref p] ∧ WebAt K H p m st kept ∧ kept.length ≤ 4000000 ∧ PlainOf kept m2 rs2 st2 ∧
  ∀ H' p2, Ext H H' → H p2 = none → WebAt K H' p2 m2 st2 (srt rs2) → Q (.ref p2) H'
theorem sc_Web_plain : FnScope ["self"] ["self"] (defScope s_webs_Web_plain) := ⟨rfl, rfl, rfl, by decide +kernel, rfl, by decide +kernel, by decide +kernel⟩
theorem ok_Web_plain (T : Txt K mg) : OkM P w K mg base 6 "Web" "plain" ["self"] (sp_Web_plain K) := by
  refine okM_of T.f_webs_Web_plain sc_Web_plain (fun _ _ _ _ _ _ us hl => match us, hl with | [_], _ => rfl) (fun vs H Q E h => ?_) (fun f cdv A outer s H vs Q E hr h => ?_)
  · obtain ⟨p, m, st, kept, m2, rs2, st2, rfl, _⟩ := h
    rfl
  · refine ⟨_, pss_one (ps_ret (pe_ok (ok_plain_of T) hr passL (pa_cons (pe_fld (pv 0) rfl) pa_nil))), ?_⟩
    obtain ⟨p, m, st, kept, m2, rs2, st2, rfl, ⟨dx, d, t, prs, h1, h2, h3, h4, h5⟩, hl, hp, k⟩ := h
    subst h5
    rw [List.length_map] at hl
    refine ⟨_, rfl, p, _, dx, _, _, rfl, h1, T.c_Web.2, T.n_Web_kept, rfl, t, prs, m2, rs2, st2, rfl, .inr h3, h4, hl, hp, fun H' p2 kept2 x n wa hk => k H' p2 x n ?_⟩
    rw [← kept_srt hk]
    exact wa
/-! tree_of -/
def sp_tree_of (K : PySem.W.Frag) : Sp := fun vs H Q _ => ∃ (p : Addr) (m : Nat) (st : St) (kept : List Ro) (n : Nat) (r : Fd), vs = [.ref p] ∧ WebAt K H p m st kept ∧ treeW n st [(0, ([], 0))] 0 = some r ∧ r.length ≤ 4000000 ∧
  ∀ H' D fa, Ext H H' → H D = none → H' D = some (.dK (kvF fa)) → FdOk H' fa → strip fa = r → Q (.ref D) H'
theorem sc_tree_of : FnScope ["web", "found", "waiting", "at", "place", "letter", "there"] ["web"] (defScope s_fewest_tree_of) := ⟨rfl, rfl, rfl, by decide +kernel, rfl, by decide +kernel, by decide +kernel⟩
theorem ok_tree_of (T : Txt K mg) : Ok P w K mg base 2 (n_fewest_tree_of) ["web"] (sp_tree_of K) := by
  refine ok_of T.f_fewest_tree_of sc_tree_of (fun _ _ _ _ _ _ us hl => match us, hl with | [_], _ => rfl) (fun vs H Q E h => ?_) (fun f cdv A outer s H vs Q E hr h => ?_)
  · obtain ⟨p, m, st, kept, n, r, rfl, _⟩ := h
    rfl
  · have hu := hu_of hr
    refine ⟨_, pss_cons (ps_set (i := 1) sc_tree_of.nd rfl (Or.inl rfl) (pe_disp (pps_cons pe_int (pe_tup (pa_cons pe_str (pa_cons pe_int pa_nil))) pps_nil) (by rfl) (by rfl) (fun z => by cases z) (by decide)))
      (pss_cons (ps_set (i := 2) sc_tree_of.nd rfl (Or.inl rfl) (pe_lst (pa_cons pe_int pa_nil))) (pss_cons (ps_set (i := 3) sc_tree_of.nd rfl (Or.inl rfl) pe_int)
        (pss_cons (ps_while (passes_of rfl) (pt_cmpR op_lt (pv 3) (pe_callB call_len_seq (by rfl) T.b_len PySem.boot_len (pa_cons (pv 2) pa_nil)) (nomark _))
          (pss_cons (ps_set (i := 4) sc_tree_of.nd rfl (Or.inl rfl) (pe_ix ix_list (pv 2) (pv 3) (fun _ _ => rfl))) (pss_cons (ps_aug (i := 3) sc_tree_of.nd rfl (Or.inl rfl) pe_int ip_add)
            (pss_one (ps_for (passes_of rfl) rfl (pi_str (pe_gs T.g_words_ORDER)) (pg_name (i := 5) sc_tree_of.nd rfl (Or.inl rfl))
              (pss_cons (ps_set (i := 6) sc_tree_of.nd rfl (Or.inl rfl) (pe_okM (pv 0) T.c_Web (ok_Web_step T) hr passL (pa_cons (pv 4) (pa_cons (pv 5) pa_nil))))
                (pss_one (ps_if (pw_and (pt_cmp (pc_notN (pv 6))) (pw_and1 (pt_cmp (pc_dnotin hu (pv 6) (pv 1)) rfl))).pt
                  (pss_cons (ps_dput hu (pv 1) (pv 6) (pe_tup (pa_cons (pv 5) (pa_cons (pv 4) pa_nil))) rfl)
                    (pss_one (ps_expr (pe_bm PySem.F.plainAttrs_list PySem.F.slot_list_append PySem.F.type_list_append mt_append (pv 2) (pa_cons (pv 6) pa_nil))))) pss_nil))))))))
          (pss_one (ps_ret (pv 1)))))), ?_⟩
    obtain ⟨p, m, st, kept, n, r, rfl, hw, ht, hr2, k⟩ := h
    have hw0 := hw
    obtain ⟨dx, d, tt, prs, h1, _⟩ := hw0
    refine fun D hD => ⟨sz2, fun t0 ht0 => ⟨(Ext.new ht0) _ _ upd_same, [(kN 0, .ref t0)], rfl, (by show 1 ≤ 15; decide), ?_⟩⟩
    have nt : t0 ≠ D := fun e => by rw [e, upd_same] at ht0; cases ht0
    have y0 : Ext H (upd (upd (upd H D (.dK [])) t0 (.tup [.str (wS []), vN 0])) D (.dK (kvF [(0, (t0, ([], 0)))]))) := Ext.put hD ((Ext.new hD).trans (Ext.new ht0))
    have y1 : upd (upd (upd H D (.dK [])) t0 (.tup [.str (wS []), vN 0])) D (.dK (kvF [(0, (t0, ([], 0)))])) t0 = some (.tup [.str (wS []), vN 0]) := by rw [upd_ne nt, upd_same]
    have y2 : upd (upd (upd H D (.dK [])) t0 (.tup [.str (wS []), vN 0])) D (.dK (kvF [(0, (t0, ([], 0)))])) D = some (.dK (kvF [(0, (t0, ([], 0)))])) := upd_same
    refine ⟨sz1, fun W hW => ⟨fun m σ H1 => ∃ fa i v4 v5 v6, σ = [some (.ref p), some (.ref D), some (.ref W), some (vN i), v4, v5, v6] ∧ Ext H H1 ∧ H1 D = some (.dK (kvF fa)) ∧ H1 W = some (.lst ((fa.map (·.1)).map vN)) ∧ FdOk H1 fa ∧ treeW m st (strip fa) i = some r,
      ⟨n, [(0, (t0, ([], 0)))], 0, _, _, _, rfl, y0.trans (Ext.new hW), (Ext.new hW) _ _ y2, upd_same, fun e he => ?_, ht⟩, fun m' σ H1 pp => ?_⟩⟩
    · rw [List.mem_singleton] at he
      subst he
      exact (Ext.new hW) _ _ y1
    obtain ⟨fa, i, v4, v5, v6, rfl, x1, hd, hw1, hf, htw⟩ := pp
    have hDW : W ≠ D := ne_at hw1 hd (fun z => nomatch z)
    refine ⟨_, rfl, _, rfl, W, _, rfl, .inl (SqL.of hw1), _, _, rfl, rfl, _, rfl, ?_⟩
    rw [List.length_map, List.length_map]
    cases m' with
    | zero => cases htw
    | succ m' =>
      unfold treeW at htw
      cases hp : fa[i]? with
      | none =>
        have hp2 : (strip fa)[i]? = none := by unfold strip; rw [List.getElem?_map, hp]; rfl
        rw [hp2] at htw
        have hge := List.getElem?_eq_none_iff.mp hp
        rw [if_neg (by simpa using hge)]
        exact ⟨_, rfl, k _ D fa x1 hD hd hf (Option.some.inj htw)⟩
      | some e =>
        have hp2 : (strip fa)[i]? = some (e.1, e.2.2) := by unfold strip; rw [List.getElem?_map, hp]; rfl
        rw [hp2] at htw
        have htw : treeW m' st (allL.foldl (treeC st e.1) (strip fa)) (i + 1) = some r := htw
        have hlt : i < fa.length := (List.getElem?_eq_some_iff.mp hp).1
        have hFl := treeW_len htw
        rw [if_pos (by simpa using hlt)]
        refine ⟨fun σ' H' => ∃ fa i v4 v5 v6, σ' = [some (.ref p), some (.ref D), some (.ref W), some (vN i), v4, v5, v6] ∧ Ext H H' ∧ H' D = some (.dK (kvF fa)) ∧ H' W = some (.lst ((fa.map (·.1)).map vN)) ∧ FdOk H' fa ∧ treeW m' st (strip fa) i = some r, fun _ _ p => ⟨m', Nat.lt_succ_self m', p⟩, ?_⟩
        refine ⟨_, rfl, _, rfl, W, _, (i : Int), vN e.1, rfl, rfl, SqL.of hw1, atI_nat (by rw [List.getElem?_map, List.getElem?_map, hp]; rfl), _, rfl, _, _, rfl, rfl, ?_⟩
        refine ⟨oS, rfl, for_it walk_str (fun j σ H2 => ∃ fa2 v5 v6, σ = [some (.ref p), some (.ref D), some (.ref W), some (vN (i + 1)), some (vN e.1), v5, v6] ∧ Ext H H2 ∧ H2 D = some (.dK (kvF fa2)) ∧ H2 W = some (.lst ((fa2.map (·.1)).map vN)) ∧ FdOk H2 fa2 ∧
          (allL.drop j).foldl (treeC st e.1) (strip fa2) = allL.foldl (treeC st e.1) (strip fa)) ⟨fa, _, _, rfl, x1, hd, hw1, hf, rfl⟩ (fun _ _ _ _ _ => True.intro) (fun j y σ Ha H2 hj pp y => ?_) (fun σ H2 pp => ?_)⟩
        · obtain ⟨fa2, v5, v6, rfl, x2, hd2, hw2, hf2, hfo⟩ := pp
          obtain ⟨rfl, c, hc, rfl⟩ := y
          obtain ⟨x, hx, rfl⟩ := oS_at hc
          rw [drop_at hx, List.foldl_cons] at hfo
          refine ⟨_, rfl, p, dx, _, rfl, x2 _ _ h1, rfl, _, rfl, _, rfl, p, m, st, kept, e.1, x, rfl, hw.ext x2, fun H3 x3 => ?_⟩
          have x23 := x2.trans x3
          have hd3 := x3 _ _ hd2
          have hw3 := x3 _ _ hw2
          have hf3 := hf2.ext x3
          cases e2 : getA st (e.1, x) with
          | none =>
            refine ⟨_, rfl, _, rfl, fa2, _, _, rfl, x23, hd3, hw3, hf3, ?_⟩
            rw [← hfo]
            unfold treeC
            rw [e2]
          | some q =>
            have hs : treeC st e.1 (strip fa2) x = if (getA (strip fa2) q).isSome = true then strip fa2 else strip fa2 ++ [(q, ([x], e.1))] := by
              unfold treeC
              rw [e2]
            have hg := dget_n (q := q) hd3
            rw [val_enc kN_inj] at hg
            rw [strip_get] at hs
            cases e3 : getA fa2 q with
            | some tv =>
              rw [e3] at hg hs
              refine ⟨_, rfl, _, rfl, _, rfl, _, rfl, D, _, rfl, hg, _, rfl, fa2, _, _, rfl, x23, hd3, hw3, hf3, ?_⟩
              rw [← hfo, hs]
              rfl
            | none =>
              rw [e3] at hg hs
              have hs : treeC st e.1 (strip fa2) x = strip fa2 ++ [(q, ([x], e.1))] := hs
              have hl2 := foldT_len st e.1 (allL.drop (j + 1)) (treeC st e.1 (strip fa2) x)
              have hsl : (strip fa2).length = fa2.length := List.length_map _
              rw [hfo, hs, List.length_append, hsl] at hl2
              refine ⟨_, rfl, _, rfl, _, rfl, _, rfl, D, _, rfl, hg, _, rfl, ?_⟩
              refine ⟨_, rfl, _, rfl, sz2, fun tn htn => ⟨_, rfl, _, rfl, D, _, rfl, DPut.k (k := kN q) ((Ext.new htn) _ _ hd3) (by rw [encD_len]; exact big_lt (by omega)), ?_⟩⟩
              have ntn : tn ≠ D := fun z => by rw [z, hd3] at htn; cases htn
              have e5 : putK (kvF fa2) (kN q) (.ref tn) = kvF (fa2 ++ [(q, (tn, ([x], e.1)))]) := by
                have z := put_enc (g := fdV) kN_inj q (tn, ([x], e.1)) fa2
                rw [putA_none e3] at z
                exact z
              rw [e5]
              have z1 : Ext H (upd (upd H3 tn (.tup [.str (lS x), vN e.1])) D (.dK (kvF (fa2 ++ [(q, (tn, ([x], e.1)))])))) := Ext.put hD (x23.trans (Ext.new htn))
              have z2 : upd (upd H3 tn (.tup [.str (lS x), vN e.1])) D (.dK (kvF (fa2 ++ [(q, (tn, ([x], e.1)))]))) W = some (.lst ((fa2.map (·.1)).map vN)) := by rw [upd_ne hDW]; exact (Ext.new htn) _ _ hw3
              have hWn : H W = none := y0.fresh hW
              refine ⟨_, rfl, .inl ⟨rfl, _, SqL.of z2⟩, _, rfl, W, _, _, rfl, rfl, z2, ?_, fa2 ++ [(q, (tn, ([x], e.1)))], _, _, rfl, Ext.put hWn z1, ?_, ?_, ?_, ?_⟩
              · rw [List.length_map, List.length_map]
                exact big_lt (by omega)
              · rw [upd_ne (Ne.symm hDW)]
                exact upd_same
              · rw [upd_same, List.map_append, List.map_append]
                rfl
              · intro a ha
                have nW : ∀ {b : Addr} {vs : List V}, H3 b = some (.tup vs) → b ≠ W ∧ b ≠ D := fun hb => ⟨ne_at hb hw3 (fun z => nomatch z), ne_at hb hd3 (fun z => nomatch z)⟩
                rcases List.mem_append.mp ha with ha | ha
                · have hb := hf3 a ha
                  obtain ⟨n1, n2⟩ := nW hb
                  rw [upd_ne n1, upd_ne n2]
                  exact (Ext.new htn) _ _ hb
                · rw [List.mem_singleton] at ha
                  subst ha
                  have n1 : tn ≠ W := fun z => by rw [z, hw3] at htn; cases htn
                  show upd (upd (upd H3 tn _) D _) W _ tn = _
                  rw [upd_ne n1, upd_ne ntn]
                  exact upd_same
              · rw [← hfo, hs]
                unfold strip
                rw [List.map_append]
                rfl
        · obtain ⟨fa2, v5, v6, rfl, x2, hd2, hw2, hf2, hfo⟩ := pp
          rw [List.drop_eq_nil_of_le (by rw [allL_len]; exact Nat.le_refl _)] at hfo
          have hfo : strip fa2 = allL.foldl (treeC st e.1) (strip fa) := hfo
          refine ⟨fa2, i + 1, _, _, _, rfl, x2, hd2, hw2, hf2, ?_⟩
          rw [hfo]
          exact htw
/-! way_to -/
def sp_way_to : Sp := fun vs H Q _ => ∃ (D : Addr) (fa : FdA) (p n : Nat) (u : List L), vs = [.ref D, vN p] ∧ H D = some (.dK (kvF fa)) ∧ FdOk H fa ∧ wayW n (strip fa) p [] = some u ∧ u.length ≤ 16000000 ∧ Q (.str (wS u)) H
theorem sc_way_to : FnScope ["tree", "place", "found", "letter"] ["tree", "place"] (defScope s_fewest_way_to) := ⟨rfl, rfl, rfl, by decide +kernel, rfl, by decide +kernel, by decide +kernel⟩
theorem ok_way_to (T : Txt K mg) : Ok P w K mg base 1 (n_fewest_way_to) ["tree", "place"] sp_way_to := by
  refine ok_of T.f_fewest_way_to sc_way_to (fun _ _ _ _ _ _ us hl => match us, hl with | [_, _], _ => rfl) (fun vs H Q E h => ?_) (fun f cdv A outer s H vs Q E hr h => ?_)
  · obtain ⟨D, fa, p, n, u, rfl, _⟩ := h
    rfl
  · have hu := hu_of hr
    refine ⟨_, pss_cons (ps_set (i := 2) sc_way_to.nd rfl (Or.inl rfl) pe_str) (pss_cons (ps_while (passes_of rfl) (pt_cmpR op_ne (pv 1) pe_int (nomark _))
      (pss_cons (ps_asg (pe_dget hu (pv 0) (pv 1) (fun _ _ => rfl)) (pg_tup rfl (pgs_cons (pg_name (i := 3) sc_way_to.nd rfl (Or.inl rfl)) (pgs_cons (pg_name (i := 1) sc_way_to.nd rfl (Or.inl rfl)) pgs_nil))))
        (pss_one (ps_set (i := 2) sc_way_to.nd rfl (Or.inl rfl) (pe_op op_add_str (pv 3) (pv 2)))))) (pss_one (ps_ret (pv 2)))), ?_⟩
    obtain ⟨D, fa, p, n, u, rfl, hd, hf, hw, hl, k⟩ := h
    refine ⟨fun m σ H1 => H1 = H ∧ ∃ q acc v3, σ = [some (.ref D), some (vN q), some (.str (wS acc)), v3] ∧ wayW m (strip fa) q acc = some u, ⟨n, rfl, p, [], _, rfl, hw⟩, fun m σ H1 pp => ?_⟩
    obtain ⟨rfl, q, acc, v3, rfl, hq⟩ := pp
    cases m with
    | zero => cases hq
    | succ m =>
      unfold wayW at hq
      refine ⟨_, rfl, rfl, _, rfl, ?_⟩
      have e1 : (!decide (V.int (q : Int) = V.int 0)) = !decide (q = 0) := by
        congr 1
        rw [Bool.eq_iff_iff]
        simp only [decide_eq_true_eq, V.int.injEq]
        omega
      show if (!decide (V.int (q : Int) = V.int 0)) = true then _ else _
      rw [e1]
      by_cases h0 : q = 0
      · rw [if_pos h0] at hq
        cases hq
        rw [decide_eq_true h0]
        exact ⟨_, rfl, k⟩
      · rw [if_neg h0] at hq
        rw [decide_eq_false h0]
        cases hg : getA (strip fa) q with
        | none => rw [hg] at hq; cases hq
        | some up =>
          obtain ⟨u1, q1⟩ := up
          rw [hg] at hq
          have hq : wayW m (strip fa) q1 (u1 ++ acc) = some u := hq
          obtain ⟨t, ht, htt⟩ := hf.get hg
          have hdg := dget_n (q := q) hd
          rw [val_enc kN_inj, ht] at hdg
          have hlen := wayW_len hq
          rw [List.length_append] at hlen
          refine ⟨fun σ' H' => H' = H1 ∧ ∃ q acc v3, σ' = [some (.ref D), some (vN q), some (.str (wS acc)), v3] ∧ wayW m (strip fa) q acc = some u, fun _ _ p => ⟨m, Nat.lt_succ_self m, p⟩, ?_⟩
          refine ⟨_, rfl, _, rfl, D, _, rfl, hdg, t, _, rfl, SqT.of htt, rfl, _, _, rfl, _, _, rfl, rfl, ?_⟩
          refine ⟨_, rfl, _, rfl, wS u1, wS acc, rfl, rfl, by rw [wS_len, wS_len]; exact big_of (by omega), rfl, q1, u1 ++ acc, some (.str (wS u1)), ?_, hq⟩
          rw [← wS_app]
          rfl
/-! ways -/
def WaysOf (m : Nat) (fd : Fd) (us : List (List L)) : Prop := us.length = m ∧ ∀ (i : Nat) (u : List L), us[i]? = some u → u.length ≤ 5000000 ∧ ∃ n, wayW n fd i [] = some u
def sp_ways (K : PySem.W.Frag) : Sp := fun vs H Q _ => ∃ (p : Addr) (m : Nat) (st : St) (kept : List Ro) (m2 : Nat) (rs2 : List Ro) (st2 : St) (n : Nat) (fd : Fd) (us : List (List L)), vs = [.ref p] ∧ WebAt K H p m st kept ∧ kept.length ≤ 4000000 ∧ PlainOf kept m2 rs2 st2 ∧
  treeW n st2 [(0, ([], 0))] 0 = some fd ∧ fd.length ≤ 4000000 ∧ WaysOf m2 fd us ∧ ∀ H' D, Ext H H' → H D = none → H' D = some (.lst (us.map fun u => V.str (wS u))) → Q (.ref D) H'
theorem sc_ways : FnScope ["web", "plain", "tree", "place"] ["web"] (defScope s_fewest_ways) := ⟨rfl, rfl, rfl, by decide +kernel, rfl, by decide +kernel, by decide +kernel⟩
theorem ok_ways (T : Txt K mg) : Ok P w K mg base 7 (n_fewest_ways) ["web"] (sp_ways K) := by
  refine ok_of T.f_fewest_ways sc_ways (fun _ _ _ _ _ _ us hl => match us, hl with | [_], _ => rfl) (fun vs H Q E h => ?_) (fun f cdv A outer s H vs Q E hr h => ?_)
  · obtain ⟨p, m, st, kept, m2, rs2, st2, n, fd, us, rfl, _⟩ := h
    rfl
  · have hu := hu_of hr
    refine ⟨_, pss_cons (ps_set (i := 1) sc_ways.nd rfl (Or.inl rfl) (pe_okM0 (pv 0) T.c_Web (ok_Web_plain T) hr passL)) (pss_cons (ps_set (i := 2) sc_ways.nd rfl (Or.inr rfl) (pe_ok (ok_tree_of T) (hr.mono (by decide)) passL (pa_cons (pv 1) pa_nil)))
      (pss_one (ps_ret (pe_lc (own := [("place", 3)]) (g := gName 3) (tt := tYes) (te := tCall sp_way_to [] E0 (tCons (tVar 2) (tCons (tVar 3) tNil))) rfl sc_ways.nd (pi_range1 (by rfl) T.b_range (pa_cons (pe_okM0 (pv 1) T.c_Web (ok_Web_many T) (hr.mono (by decide)) passL) pa_nil)) (blkOk_by (N := ["web", "plain", "tree", "place"]) (sc := defScope s_fewest_ways) (by decide +kernel))
        (fun _ _ _ _ _ => pg_name (i := 3) sc_ways.nd rfl (Or.inl rfl)) (fun _ _ _ _ _ => pts_nil) (fun _ _ _ _ _ => pe_ok (ok_way_to T) (hr.mono (by decide)) passL (pa_cons (pv 2) (pa_cons (pv 3) pa_nil))))))), ?_⟩
    obtain ⟨p, m, st, kept, m2, rs2, st2, n, fd, us, rfl, hw, hkl, hp, ht, hfl, ⟨hul, huw⟩, k⟩ := h
    have hw0 := hw
    obtain ⟨dx, d, tt, prs, h1, _⟩ := hw0
    have hm2 := hp.good.most
    refine ⟨_, rfl, p, dx, _, rfl, h1, rfl, p, m, st, kept, m2, rs2, st2, rfl, hw, hkl, hp, fun H1 p2 x1 _ hw2 => ?_⟩
    have hw20 := hw2
    obtain ⟨dx2, d2, tt2, prs2, h2, _⟩ := hw20
    refine ⟨_, rfl, p2, m2, st2, _, n, fd, rfl, hw2, ht, hfl, fun H2 D fa x2 _ hd hf he => ?_⟩
    subst he
    refine ⟨_, rfl, p2, dx2, _, rfl, x2 _ _ h2, rfl, p2, m2, st2, _, rfl, hw2.ext x2, _, rfl, by omega, by omega, fun D3 hD3 => lc_all walk_range (us.map fun u => V.str (wS u)) (by simp [hul]) hD3 (by simp; exact big_of (by omega)) (fun _ _ => True.intro) (fun i r v Ha H3 Q' hr x3 y hq => ?_) (fun H3 x3 hd3 => ?_)⟩
    · obtain ⟨rfl, rfl⟩ := y
      rw [List.getElem?_map] at hr
      obtain ⟨u, hu2, rfl⟩ := Option.map_eq_some_iff.mp hr
      obtain ⟨hl2, n2, hn2⟩ := huw i u hu2
      exact ⟨rfl, _, rfl, _, rfl, D, fa, i, n2, u, (by show [V.ref D, V.int (0 + (i : Int))] = _; rw [Int.zero_add]), x3 _ _ hd, hf.ext x3, hn2, by omega, hq _ Ext.rfl'⟩
    · have x := (x1.trans x2)
      exact k _ D3 (x.trans x3) (x.fresh hD3) hd3
/-! others -/
def isOther (fd : Fd) (r : Ro) : Bool := !decide (getA fd r.2.2 = some ([r.2.1], r.1)) && !decide (getA fd r.1 = some ([bk r.2.1], r.2.2))
def dTup (u : List L) (p : Nat) : PyData := .tuple [.str (wS u), .int p]
theorem dTup_sh (u : List L) (p : Nat) : SeqAt.shaped (dTup u p) = true := shaped_tup fun d hd => by
  rcases List.mem_cons.mp hd with rfl | hd
  · exact ⟨lay_w u, Nat.zero_le _⟩
  · rcases List.mem_cons.mp hd with rfl | hd
    · exact ⟨rfl, Nat.zero_le _⟩
    · cases hd
theorem wS_inj {u v : List L} (h : wS u = wS v) : u = v := by
  have e : u.map cp = v.map cp := by
    injection h with h
    simpa using h
  exact (List.map_inj_right fun a b e => cp_inj e).mp e
theorem dTup_eq (u v : List L) (p q : Nat) : PyData.eqv (dTup u p) (dTup v q) = decide ((u, p) = (v, q)) := by
  show ((wS u == wS v) && (((p : Int) == (q : Int)) && true)) = _
  rw [Bool.eq_iff_iff, Bool.and_true, Bool.and_eq_true, beq_iff_eq, beq_iff_eq, decide_eq_true_eq, Prod.mk.injEq]
  constructor
  · rintro ⟨h1, h2⟩
    exact ⟨wS_inj h1, by omega⟩
  · rintro ⟨rfl, rfl⟩
    exact ⟨rfl, rfl⟩
def sp_others (K : PySem.W.Frag) : Sp := fun vs H Q _ => ∃ (p : Addr) (m : Nat) (st : St) (kept : List Ro) (n : Nat) (fd : Fd), vs = [.ref p] ∧ WebAt K H p m st kept ∧ kept.length ≤ 4000000 ∧ treeW n st [(0, ([], 0))] 0 = some fd ∧ fd.length ≤ 4000000 ∧
  (∀ r ∈ kept, (getA fd r.1).isSome = true ∧ (getA fd r.2.2).isSome = true) ∧ ∀ H' D prs, Ext H H' → H D = none → H' D = some (.lst (prV prs)) → PrsAt H' prs → prs.map (·.2) = kept.filter (isOther fd) → Q (.ref D) H'
theorem sc_others : FnScope ["plain", "tree", "found", "first", "letter", "last"] ["plain"] (defScope s_fewest_others) := ⟨rfl, rfl, rfl, by decide +kernel, rfl, by decide +kernel, by decide +kernel⟩
theorem ok_others (T : Txt K mg) : Ok P w K mg base 3 (n_fewest_others) ["plain"] (sp_others K) := by
  refine ok_of T.f_fewest_others sc_others (fun _ _ _ _ _ _ us hl => match us, hl with | [_], _ => rfl) (fun vs H Q E h => ?_) (fun f cdv A outer s H vs Q E hr h => ?_)
  · obtain ⟨p, m, st, kept, n, fd, rfl, _⟩ := h
    rfl
  · have hu := hu_of hr
    refine ⟨_, pss_cons (ps_set (i := 1) sc_others.nd rfl (Or.inl rfl) (pe_ok (ok_tree_of T) hr passL (pa_cons (pv 0) pa_nil))) (pss_cons (ps_set (i := 2) sc_others.nd rfl (Or.inl rfl) (pe_lst pa_nil))
      (pss_cons (ps_for (passes_of rfl) rfl (pi_list (pe_okM0 (pv 0) T.c_Web (ok_Web_roads T) (hr.mono (by decide)) passL)) (pg_tup rfl (pgs_cons (pg_name (i := 3) sc_others.nd rfl (Or.inl rfl)) (pgs_cons (pg_name (i := 4) sc_others.nd rfl (Or.inl rfl)) (pgs_cons (pg_name (i := 5) sc_others.nd rfl (Or.inl rfl)) pgs_nil))))
        (pss_one (ps_if (pw_and (pt_cmpR (op_neD hr.units) (pe_dget hu (pv 1) (pv 5) (fun _ _ => rfl)) (pe_tup (pa_cons (pv 4) (pa_cons (pv 3) pa_nil))) (nomark _))
            (pw_and1 (pt_cmpR (op_neD hr.units) (pe_dget hu (pv 1) (pv 3) (fun _ _ => rfl)) (pe_tup (pa_cons (pe_ok (ok_back_of T) (hr.mono (by decide)) passL (pa_cons (pv 4) pa_nil)) (pa_cons (pv 5) pa_nil))) (nomark _)))).pt
          (pss_one (ps_expr (pe_bm PySem.F.plainAttrs_list PySem.F.slot_list_append PySem.F.type_list_append mt_append (pv 2) (pa_cons (pe_tup (pa_cons (pv 3) (pa_cons (pv 4) (pa_cons (pv 5) pa_nil)))) pa_nil)))) pss_nil)))
        (pss_one (ps_ret (pv 2))))), ?_⟩
    obtain ⟨p, m, st, kept, n, fd, rfl, hw, hkl, ht, hfl, hso, k⟩ := h
    have hw0 := hw
    obtain ⟨dx, d, tt, prs0, h1, _⟩ := hw0
    refine ⟨_, rfl, p, m, st, kept, n, fd, rfl, hw, ht, hfl, fun H1 Dt fa x1 _ hdt hf he => ⟨Nat.zero_le _, fun D hD => ?_⟩⟩
    subst he
    have x2 : Ext H (upd H1 D (.lst [])) := x1.trans (Ext.new hD)
    have hDn : H D = none := x1.fresh hD
    refine ⟨_, rfl, p, dx, _, rfl, x2 _ _ h1, rfl, p, m, st, kept, rfl, hw.ext x2, fun H2 DL prs x3 hDLn hdl hprs he2 => ⟨DL, rfl, ⟨_, SqL.of hdl⟩, ?_⟩⟩
    subst he2
    rw [List.length_map] at hkl
    have hD2 := x3 _ _ (upd_same (H := H1) (a := D) (o := .lst []))
    have hDL : DL ≠ D := fun e => by rw [e, upd_same] at hDLn; cases hDLn
    have nDt : Dt ≠ D := ne_at (x3 _ _ ((Ext.new hD) _ _ hdt)) hD2 (fun z => nomatch z)
    refine for_it (walk_list (K := K) (a := DL) (xs := prV prs)) (fun i σ H3 => ∃ v3 v4 v5 prs', σ = [some (.ref p), some (.ref Dt), some (.ref D), v3, v4, v5] ∧ Ext1 D H2 H3 ∧ H3 D = some (.lst (prV prs')) ∧ PrsAt H3 prs' ∧ prs'.map (·.2) = ((prs.map (·.2)).take i).filter (isOther (strip fa)))
      ⟨_, _, _, [], rfl, Ext1.rfl', hD2, (fun _ hp => nomatch hp), rfl⟩ (fun i σ H3 _ pp => ?_) (fun i y σ Ha H3 hi pp yy => ?_) (fun σ H3 pp => ?_)
    · obtain ⟨v3, v4, v5, prs', rfl, x4, _⟩ := pp
      exact SqL.of (x4 _ _ hDL hdl)
    · obtain ⟨v3, v4, v5, prs', rfl, x4, hd4, hp4, he4⟩ := pp
      obtain ⟨rfl, hv⟩ := yy
      obtain ⟨pp, hpp, rfl⟩ := prV_at hv
      have hm := List.mem_of_getElem? hpp
      have hti := x4 _ _ (ne_at (hprs pp hm) hD2 (fun z => nomatch z)) (hprs pp hm)
      obtain ⟨s1, s2⟩ := hso pp.2 (List.mem_map_of_mem hm)
      obtain ⟨⟨u1, q1⟩, g1⟩ := Option.isSome_iff_exists.mp s2
      obtain ⟨⟨u2, q2⟩, g2⟩ := Option.isSome_iff_exists.mp s1
      have hdt4 := x4 _ _ nDt (x3 _ _ ((Ext.new hD) _ _ hdt))
      have hf4 : FdOk H3 fa := fun e he => x4 _ _ (ne_at (x3 _ _ ((Ext.new hD) _ _ (hf e he))) hD2 (fun z => nomatch z)) (x3 _ _ ((Ext.new hD) _ _ (hf e he)))
      obtain ⟨t1, ht1, htt1⟩ := hf4.get g1
      obtain ⟨t2, ht2, htt2⟩ := hf4.get g2
      have dg1 := dget_n (q := pp.2.2.2) hdt4
      rw [val_enc kN_inj, ht1] at dg1
      have htk : (prs.map (·.2)).take (i + 1) = (prs.map (·.2)).take i ++ [pp.2] := by
        rw [List.take_succ, List.getElem?_map, hpp]
        rfl
      have io : isOther (strip fa) pp.2 = (!decide ((u1, q1) = ([pp.2.2.1], pp.2.1)) && !decide ((u2, q2) = ([bk pp.2.2.1], pp.2.2.2))) := by
        unfold isOther
        rw [g1, g2]
        simp only [Option.some.injEq]
      have hstay : ∀ Hc, Ext H3 Hc → isOther (strip fa) pp.2 = false → ∃ v3 v4 v5 prs', ([some (.ref p), some (.ref Dt), some (.ref D), some (vN pp.2.1), some (.str (lS pp.2.2.1)), some (vN pp.2.2.2)] : L2.St) = [some (.ref p), some (.ref Dt), some (.ref D), v3, v4, v5] ∧ Ext1 D H2 Hc ∧ Hc D = some (.lst (prV prs')) ∧ PrsAt Hc prs' ∧
          prs'.map (·.2) = ((prs.map (·.2)).take (i + 1)).filter (isOther (strip fa)) := fun Hc xc hio => by
        refine ⟨_, _, _, prs', rfl, x4.trans xc.e1, xc _ _ hd4, hp4.ext xc, ?_⟩
        rw [htk, List.filter_append, he4, List.filter_cons, if_neg (by rw [hio]; exact Bool.false_ne_true)]
        simp
      refine ⟨pp.1, _, rfl, SqT.of hti, rfl, _, _, rfl, _, _, rfl, _, _, rfl, rfl, ?_⟩
      refine ⟨_, rfl, _, rfl, Dt, _, rfl, dg1, _, rfl, _, rfl, sz2, fun tn htn => ⟨dTup u1 q1, dTup [pp.2.2.1] pp.2.1, .tup (SqT.of ((Ext.new htn) _ _ htt1)) (.cons (.str _) (.cons (.int _) .nil)), .tup (SqT.of upd_same) (.cons (.str _) (.cons (.int _) .nil)), dTup_sh _ _, dTup_sh _ _, _, rfl, ?_⟩⟩
      rw [dTup_eq]
      have xa : Ext H3 (upd H3 tn (.tup [.str (lS pp.2.2.1), vN pp.2.1])) := Ext.new htn
      by_cases c1 : (u1, q1) = ([pp.2.2.1], pp.2.1)
      · rw [decide_eq_true c1] at io ⊢
        exact hstay _ xa io
      · rw [decide_eq_false c1] at io ⊢
        have dg2 := dget_n (q := pp.2.1) (xa _ _ hdt4)
        rw [val_enc kN_inj, ht2] at dg2
        refine ⟨_, rfl, _, rfl, Dt, _, rfl, dg2, _, rfl, pp.2.2.1, rfl, _, rfl, sz2, fun tn2 htn2 => ⟨dTup u2 q2, dTup [bk pp.2.2.1] pp.2.2.2, .tup (SqT.of ((xa.trans (Ext.new htn2)) _ _ htt2)) (.cons (.str _) (.cons (.int _) .nil)), .tup (SqT.of upd_same) (.cons (.str _) (.cons (.int _) .nil)), dTup_sh _ _, dTup_sh _ _, _, rfl, ?_⟩⟩
        rw [dTup_eq]
        have xb := xa.trans (Ext.new (o := .tup [.str (lS (bk pp.2.2.1)), vN pp.2.2.2]) htn2)
        by_cases c2 : (u2, q2) = ([bk pp.2.2.1], pp.2.2.2)
        · rw [decide_eq_true c2] at io ⊢
          exact hstay _ xb io
        · rw [decide_eq_false c2] at io ⊢
          have hd5 := xb _ _ hd4
          have hle : prs'.length ≤ prs.length := by
            have e := congrArg List.length he4
            rw [List.length_map] at e
            have l1 := List.length_filter_le (isOther (strip fa)) ((prs.map (·.2)).take i)
            have l2 : ((prs.map (·.2)).take i).length ≤ prs.length := by simp; omega
            omega
          refine ⟨_, rfl, .inl ⟨rfl, _, SqL.of hd5⟩, _, rfl, _, rfl, _, rfl, sz3, fun t3 ht3 => ⟨D, _, _, rfl, rfl, (Ext.new ht3) _ _ hd5, by rw [List.length_map]; exact big_lt (by omega), _, _, _, prs' ++ [(t3, pp.2)], rfl, (x4.trans (xb.trans (Ext.new ht3)).e1).put _, ?_, ?_, ?_⟩⟩
          · rw [upd_same]
            unfold prV
            rw [List.map_append]
            rfl
          · have n3 : t3 ≠ D := fun z => by rw [z, hd5] at ht3; cases ht3
            intro a ha
            rcases List.mem_append.mp ha with ha | ha
            · have hb := (xb.trans (Ext.new (o := .tup (rV pp.2)) ht3)) _ _ (hp4 a ha)
              rw [upd_ne (ne_at hb ((Ext.new (o := .tup (rV pp.2)) ht3) _ _ hd5) (fun z => nomatch z))]
              exact hb
            · rw [List.mem_singleton] at ha
              subst ha
              show upd (upd _ t3 _) D _ t3 = _
              rw [upd_ne n3]
              exact upd_same
          · rw [htk, List.filter_append, ← he4, List.filter_cons, if_pos (show isOther (strip fa) pp.2 = true from io), List.map_append]
            rfl
    · obtain ⟨v3, v4, v5, prs', rfl, x4, hd4, hp4, he4⟩ := pp
      rw [List.take_of_length_le (by simp)] at he4
      exact ⟨_, rfl, k _ D prs' (Ext1.ext (x2.trans x3) x4 hDn) hDn hd4 hp4 he4⟩
/-! fewest -/
def fewU (us : List (List L)) (r : Ro) : List L := pt (us.getD r.1 [] ++ [r.2.1] ++ bkW (us.getD r.2.2 []))
def FewOf (kept : List Ro) (ans : List (List L)) : Prop := ∃ (m2 : Nat) (rs2 : List Ro) (st2 : St) (m3 : Nat) (rs3 : List Ro) (st3 : St) (n : Nat) (fd : Fd) (us : List (List L)) (n2 : Nat) (fd2 : Fd), kept.length ≤ 4000000 ∧ PlainOf kept m2 rs2 st2 ∧ (srt rs2).length ≤ 4000000 ∧ PlainOf (srt rs2) m3 rs3 st3 ∧
  treeW n st3 [(0, ([], 0))] 0 = some fd ∧ fd.length ≤ 4000000 ∧ WaysOf m3 fd us ∧ treeW n2 st2 [(0, ([], 0))] 0 = some fd2 ∧ fd2.length ≤ 4000000 ∧ (∀ r ∈ srt rs2, (getA fd2 r.1).isSome = true ∧ (getA fd2 r.2.2).isSome = true) ∧
  (∀ r ∈ (srt rs2).filter (isOther fd2), r.1 < us.length ∧ r.2.2 < us.length) ∧ ans = ((srt rs2).filter (isOther fd2)).map (fewU us)
def sp_fewest (K : PySem.W.Frag) : Sp := fun vs H Q _ => ∃ (p : Addr) (m : Nat) (st : St) (kept : List Ro) (ans : List (List L)), vs = [.ref p] ∧ WebAt K H p m st kept ∧ FewOf kept ans ∧ ∀ H' D, Ext H H' → H D = none → H' D = some (.lst (ans.map fun u => V.str (wS u))) → Q (.ref D) H'
theorem sc_fewest : FnScope ["web", "plain", "way", "first", "letter", "last"] ["web"] (defScope s_fewest_fewest) := ⟨rfl, rfl, rfl, by decide +kernel, rfl, by decide +kernel, by decide +kernel⟩
theorem ok_fewest (T : Txt K mg) : Ok P w K mg base 8 (n_fewest_fewest) ["web"] (sp_fewest K) := by
  refine ok_of T.f_fewest_fewest sc_fewest (fun _ _ _ _ _ _ us hl => match us, hl with | [_], _ => rfl) (fun vs H Q E h => ?_) (fun f cdv A outer s H vs Q E hr h => ?_)
  · obtain ⟨p, m, st, kept, ans, rfl, _⟩ := h
    rfl
  · have hu := hu_of hr
    refine ⟨_, pss_cons (ps_set (i := 1) sc_fewest.nd rfl (Or.inl rfl) (pe_okM0 (pv 0) T.c_Web (ok_Web_plain T) (hr.mono (by decide)) passL)) (pss_cons (ps_set (i := 2) sc_fewest.nd rfl (Or.inr rfl) (pe_ok (ok_ways T) hr passL (pa_cons (pv 1) pa_nil)))
      (pss_one (ps_ret (pe_lc (own := [("first", 3), ("letter", 4), ("last", 5)]) (g := gTup K 3 (gCons (gName 3) (gCons (gName 4) (gCons (gName 5) gNil)))) (tt := tYes)
          (te := tCall sp_put_together [] E0 (tCons (tOp (fun x y H Q => ∃ i j, x = .str i ∧ y = .str j ∧ i.length + j.length ≤ sizeLine ∧ Q (.str (i ++ j)) H) (tOp (fun x y H Q => ∃ i j, x = .str i ∧ y = .str j ∧ i.length + j.length ≤ sizeLine ∧ Q (.str (i ++ j)) H) (tOp (rIxL K) (tVar 2) (tVar 3)) (tVar 4)) (tCall sp_back [] E0 (tCons (tOp (rIxL K) (tVar 2) (tVar 5)) tNil))) tNil))
          rfl sc_fewest.nd (pi_list (pe_ok (ok_others T) (hr.mono (by decide)) passL (pa_cons (pv 1) pa_nil))) (blkOk_by (N := ["web", "plain", "way", "first", "letter", "last"]) (sc := defScope s_fewest_fewest) (by decide +kernel))
          (fun _ _ _ _ _ => pg_tup rfl (pgs_cons (pg_name (i := 3) sc_fewest.nd rfl (Or.inl rfl)) (pgs_cons (pg_name (i := 4) sc_fewest.nd rfl (Or.inl rfl)) (pgs_cons (pg_name (i := 5) sc_fewest.nd rfl (Or.inl rfl)) pgs_nil)))) (fun _ _ _ _ _ => pts_nil)
          (fun _ _ _ _ _ => pe_ok (ok_put_together T) (hr.mono (by decide)) passL (pa_cons (pe_op op_add_str (pe_op op_add_str (pe_ix ix_list (pv 2) (pv 3) (fun _ _ => rfl)) (pv 4)) (pe_ok (ok_back T) (hr.mono (by decide)) passL (pa_cons (pe_ix ix_list (pv 2) (pv 5) (fun _ _ => rfl)) pa_nil))) pa_nil)))))), ?_⟩
    obtain ⟨p, m, st, kept, ans, rfl, hw, ⟨m2, rs2, st2, m3, rs3, st3, n, fd, us, n2, fd2, hkl, hp2, hl2, hp3, ht, hfl, hwo, ht2, hfl2, hso, hus, rfl⟩, k⟩ := h
    have hw0 := hw
    obtain ⟨dx, d, tt, prs, h1, _⟩ := hw0
    refine ⟨_, rfl, p, dx, _, rfl, h1, rfl, p, m, st, kept, m2, rs2, st2, rfl, hw, hkl, hp2, fun H1 p2 x1 _ hw2 => ?_⟩
    refine ⟨_, rfl, p2, m2, st2, _, m3, rs3, st3, n, fd, us, rfl, hw2, hl2, hp3, ht, hfl, hwo, fun H2 W x2 _ hW => ?_⟩
    refine ⟨_, rfl, p2, m2, st2, _, n2, fd2, rfl, hw2.ext x2, hl2, ht2, hfl2, hso, fun H3 DL prs3 x3 _ hdl hp4 he4 => ⟨DL, rfl, ⟨_, SqL.of hdl⟩, fun D hD => ?_⟩⟩
    have hsz : prs3.length ≤ sizeLine := by
      have e := congrArg List.length he4
      rw [List.length_map] at e
      have l1 := List.length_filter_le (isOther fd2) (srt rs2)
      exact big_of (by omega)
    refine lc_all walk_list (prs3.map fun q => V.str (wS (fewU us q.2))) (by simp) hD (by simpa using hsz) (fun H' x => SqL.of (x _ _ hdl)) (fun i r v Ha H4 Q' hr4 x4 y hq => ?_) (fun H4 x4 hd4 => ?_)
    · obtain ⟨rfl, hv⟩ := y
      obtain ⟨pp, hpp, rfl⟩ := prV_at hv
      have hm := List.mem_of_getElem? hpp
      rw [List.getElem?_map, hpp] at hr4
      cases hr4
      obtain ⟨i1, i2⟩ := hus pp.2 (by rw [← he4]; exact List.mem_map_of_mem hm)
      have a1 : us[pp.2.1]? = some us[pp.2.1] := by simp [i1]
      have a2 : us[pp.2.2.2]? = some us[pp.2.2.2] := by simp [i2]
      obtain ⟨z1, _⟩ := hwo.2 _ _ a1
      obtain ⟨z2, _⟩ := hwo.2 _ _ a2
      have hW4 := (x3.trans x4) _ _ hW
      refine ⟨pp.1, _, rfl, SqT.of (x4 _ _ (hp4 pp hm)), rfl, _, _, rfl, _, _, rfl, _, _, rfl, rfl, rfl, ?_⟩
      refine ⟨_, rfl, _, rfl, W, _, (pp.2.1 : Int), V.str (wS us[pp.2.1]), rfl, rfl, SqL.of hW4, atI_nat (by rw [List.getElem?_map, a1]; rfl), _, rfl, wS us[pp.2.1], wS [pp.2.2.1], rfl, rfl, by rw [wS_len, wS_len]; exact big_of (by show us[pp.2.1].length + 1 ≤ _; omega), ?_⟩
      rw [wS_app]
      refine ⟨_, rfl, _, rfl, W, _, (pp.2.2.2 : Int), V.str (wS us[pp.2.2.2]), rfl, rfl, SqL.of hW4, atI_nat (by rw [List.getElem?_map, a2]; rfl), us[pp.2.2.2], rfl, by omega, fun H5 x5 => ⟨_, _, rfl, rfl, ?_, ?_⟩⟩
      · rw [wS_len, wS_len, bkW_len, List.length_append]
        exact big_of (by show us[pp.2.1].length + 1 + us[pp.2.2.2].length ≤ _; omega)
      · rw [wS_app]
        refine ⟨_, rfl, ?_, fun H6 x6 => ?_⟩
        · rw [List.length_append, List.length_append, bkW_len]
          show us[pp.2.1].length + 1 + us[pp.2.2.2].length ≤ _
          omega
        · have e : pt (us[pp.2.1] ++ [pp.2.2.1] ++ bkW us[pp.2.2.2]) = fewU us pp.2 := by
            unfold fewU
            rw [List.getD_eq_getElem?_getD, List.getD_eq_getElem?_getD, a1, a2]
            rfl
          rw [e]
          exact hq _ (x5.trans x6)
    · have x13 := (x1.trans x2).trans x3
      refine k _ D (x13.trans x4) (x13.fresh hD) ?_
      rw [hd4, ← he4, List.map_map, List.map_map]
      rfl
end
end BW


set_option Elab.async false
set_option linter.all false
set_option maxRecDepth 100000
set_option maxHeartbeats 4000000
namespace BW
open PySem PySem.Spec PyProof.Rows L2 BwR BwE BwD BwS
section
variable {P : Program} {w : World} {K : PySem.W.Frag} {mg : Str → Option Value} {base : Heap}
/-! Folding.__init__ -/
def newFS (m : Nat) : FS := ⟨List.range m, List.replicate m [], []⟩
def sp_Fold_init (K : PySem.W.Frag) : Sp := fun vs H Q _ => ∃ (p dx : Addr) (m : Nat) (H0 : Hp), vs = [.ref p, vN m] ∧ H p = some (.ins (He.ga K "Folding") dx []) ∧ m ≤ 4000000 ∧ H0 p = none ∧ Ext H0 H ∧ ∀ H', Fr H0 H H' → FoldAt K H0 H' p (newFS m) → Q .non H'
theorem sc_Fold_init : FnScope ["self", "many", "place"] ["self", "many"] (defScope s_folding_Folding___init__) := ⟨rfl, rfl, rfl, by decide +kernel, rfl, by decide +kernel, by decide +kernel⟩
theorem ok_Fold_init (T : Txt K mg) : OkI P w K mg base 1 "Folding" ["self", "many"] (sp_Fold_init K) := by
  refine okI_of T.f_folding_Folding___init__ sc_Fold_init (fun _ _ _ _ _ _ us hl => match us, hl with | [_, _], _ => rfl) (fun vs H Q E h => ?_) (fun f cdv A outer s H vs Q E hr h => ?_)
  · obtain ⟨p, dx, m, H0, rfl, _⟩ := h
    rfl
  · refine ⟨_, pss_cons (ps_fld (pv 0) (pe_listRg rfl (by rfl) T.b_list (prg_1 (by rfl) T.b_range (pv 1))) rfl)
      (pss_cons (ps_fld (pv 0) (pe_lc (own := [("place", 2)]) (g := gName 2) (tt := tYes) (te := tDNewK) rfl sc_Fold_init.nd (pi_range1 (by rfl) T.b_range (pa_cons (pv 1) pa_nil)) (blkOk_by (N := ["self", "many", "place"]) (sc := defScope s_folding_Folding___init__) (by decide +kernel))
          (fun _ _ _ _ _ => pg_name (i := 2) sc_Fold_init.nd rfl (Or.inl rfl)) (fun _ _ _ _ _ => pts_nil) (fun _ _ _ _ _ => pe_dnewK)) rfl)
        (pss_one (ps_fld (pv 0) (pe_lst pa_nil) rfl))), ?_⟩
    obtain ⟨p, dx, m, H0, rfl, hp, hm, hn, x0, k⟩ := h
    refine ⟨_, rfl, m, rfl, RgOk.of_le (by omega) (by omega) (by omega) (by omega), fun a ha => ?_⟩
    rw [rgV_0]
    have npa : p ≠ a := fun z => by rw [← z, hp] at ha; cases ha
    refine ⟨_, rfl, p, _, dx, _, rfl, (Ext.new ha) _ _ hp, T.c_Folding.2, T.n_Folding_heads, by decide, ?_⟩
    have y0 : Fr H0 H (upd (upd H a (.lst ((List.range m).map vN))) p (.ins (He.ga K "Folding") dx (putF "heads" (.ref a) []))) := (Ext.new ha).fr.trans (Fr.put hn ((Ext.new ha) _ _ hp) (fun _ z => nomatch z))
    have g1 : upd (upd H a (.lst ((List.range m).map vN))) p (.ins (He.ga K "Folding") dx (putF "heads" (.ref a) [])) p = some (.ins (He.ga K "Folding") dx [("heads", .ref a)]) := upd_same
    have g2 : upd (upd H a (.lst ((List.range m).map vN))) p (.ins (He.ga K "Folding") dx (putF "heads" (.ref a) [])) a = some (.lst ((List.range m).map vN)) := by rw [upd_ne (Ne.symm npa), upd_same]
    have na0 := x0.fresh ha
    refine ⟨_, rfl, _, rfl, by omega, by omega, fun b hb => ?_⟩
    revert y0 g1 g2 hb
    generalize upd (upd H a (.lst ((List.range m).map vN))) p (.ins (He.ga K "Folding") dx (putF "heads" (.ref a) [])) = H1
    intro y0 g1 g2 hb
    have x1 := y0.1 x0
    have nb0 := x1.fresh hb
    refine lc_dicts walk_range hb (by rw [Int.toNat_natCast]; exact big_of (by omega)) (fun _ _ => True.intro) (fun i x Ha H2 Q' hi x2 y hq => ?_) (fun H2 ds x2 hb2 hdl hdn hds => ?_)
    · obtain ⟨rfl, rfl⟩ := y
      exact hq _ _ Ext.rfl' rfl
    · rw [Int.toNat_natCast] at hdl
      have hp2 := x2 _ _ g1
      refine ⟨_, rfl, p, _, dx, _, rfl, hp2, T.c_Folding.2, T.n_Folding_steps, (by show 1 < 1000; decide), ?_⟩
      have nbp : b ≠ p := ne_at hb2 hp2 (fun z => nomatch z)
      have nba : b ≠ a := fun z => by rw [z, g2] at hb; cases hb
      refine ⟨Nat.zero_le _, fun c hc => ?_⟩
      have y2 : Fr H0 H (upd H2 p (.ins (He.ga K "Folding") dx (putF "steps" (.ref b) [("heads", .ref a)]))) := (y0.trans x2.fr).trans (Fr.put hn hp2 (fun _ z => nomatch z))
      have h1 : upd H2 p (.ins (He.ga K "Folding") dx (putF "steps" (.ref b) [("heads", .ref a)])) p = some (.ins (He.ga K "Folding") dx [("heads", .ref a), ("steps", .ref b)]) := upd_same
      have h2 : upd H2 p (.ins (He.ga K "Folding") dx (putF "steps" (.ref b) [("heads", .ref a)])) a = some (.lst ((List.range m).map vN)) := by rw [upd_ne (Ne.symm npa)]; exact x2 _ _ g2
      have h3 : upd H2 p (.ins (He.ga K "Folding") dx (putF "steps" (.ref b) [("heads", .ref a)])) b = some (.lst (rfs ds)) := by rw [upd_ne nbp]; exact hb2
      have h4 : ∀ d ∈ ds, upd H2 p (.ins (He.ga K "Folding") dx (putF "steps" (.ref b) [("heads", .ref a)])) d = some (.dK []) := fun d hd => by
        rw [upd_ne (ne_at (hds d hd).1 hp2 (fun z => nomatch z))]
        exact (hds d hd).1
      revert y2 h1 h2 h3 h4 hc
      generalize upd H2 p (.ins (He.ga K "Folding") dx (putF "steps" (.ref b) [("heads", .ref a)])) = H3
      intro hc y2 h1 h2 h3 h4
      have nc0 := (y2.1 x0).fresh hc
      have w4 : Ext H3 (upd H3 c (.lst [])) := Ext.new hc
      have hp4 := w4 _ _ h1
      refine ⟨_, rfl, p, _, dx, _, rfl, hp4, T.c_Folding.2, T.n_Folding_waiting, (by show 2 < 1000; decide), ?_⟩
      have ncp : c ≠ p := fun z => by rw [z, h1] at hc; cases hc
      have nca : c ≠ a := fun z => by rw [z, h2] at hc; cases hc
      have ncb : c ≠ b := fun z => by rw [z, h3] at hc; cases hc
      refine k _ ((y2.trans w4.fr).trans (Fr.put hn hp4 (fun _ z => nomatch z))) ⟨dx, a, b, c, ds, [], ⟨upd_same, ?_, ?_, ?_, (fun _ z => nomatch z), rfl, by rw [hdl]; simp [newFS], hdn, fun i d s h5 h6 => ?_, Ne.symm nba, Ne.symm nca, Ne.symm ncb, hn, na0, nb0, nc0, fun d hd => x1.fresh (hds d hd).2⟩⟩
      · rw [upd_ne (Ne.symm npa)]
        exact w4 _ _ h2
      · rw [upd_ne nbp]
        exact w4 _ _ h3
      · rw [upd_ne ncp]
        exact upd_same
      · have hm := List.mem_of_getElem? h5
        have hz := w4 _ _ (h4 d hm)
        rw [upd_ne (ne_at hz hp4 (fun z => nomatch z))]
        have e : s = [] := by
          have := List.mem_of_getElem? h6
          exact (List.mem_replicate.mp this).2
        rw [e]
        exact hz
/-! Folding.head -/
def sp_Fold_head (K : PySem.W.Frag) : Sp := fun vs H Q _ => ∃ (p q : Nat) (H0 : Hp) (dx a b c : Addr) (ds : List Addr) (prs : List (Addr × Ro)) (fs : FS) (n r : Nat), vs = [.ref p, vN q] ∧ FoldA K H0 H p dx a b c ds prs fs ∧ headW n fs.heads q = some r ∧ Q (vN r) H
theorem sc_Fold_head : FnScope ["self", "place"] ["self", "place"] (defScope s_folding_Folding_head) := ⟨rfl, rfl, rfl, by decide +kernel, rfl, by decide +kernel, by decide +kernel⟩
theorem ok_Fold_head (T : Txt K mg) : OkM P w K mg base 1 "Folding" "head" ["self", "place"] (sp_Fold_head K) := by
  refine okM_of T.f_folding_Folding_head sc_Fold_head (fun _ _ _ _ _ _ us hl => match us, hl with | [_, _], _ => rfl) (fun vs H Q E h => ?_) (fun f cdv A outer s H vs Q E hr h => ?_)
  · obtain ⟨p, q, H0, dx, a, b, c, ds, prs, fs, n, r, rfl, _⟩ := h
    rfl
  · refine ⟨_, pss_cons (ps_while (passes_of rfl) (pt_cmpR op_ne (pe_ix ix_list (pe_fld (pv 0) rfl) (pv 1) (fun _ _ => rfl)) (pv 1) (nomark _)) (pss_one (ps_set (i := 1) sc_Fold_head.nd rfl (Or.inl rfl) (pe_ix ix_list (pe_fld (pv 0) rfl) (pv 1) (fun _ _ => rfl)))))
      (pss_one (ps_ret (pv 1))), ?_⟩
    obtain ⟨p, q, H0, dx, a, b, c, ds, prs, fs, n, r, rfl, F, hq, k⟩ := h
    refine ⟨fun m σ H1 => H1 = H ∧ ∃ q, σ = [some (.ref p), some (vN q)] ∧ headW m fs.heads q = some r, ⟨n, rfl, q, rfl, hq⟩, fun m σ H1 pp => ?_⟩
    obtain ⟨rfl, q, rfl, hq⟩ := pp
    cases m with
    | zero => cases hq
    | succ m =>
      unfold headW at hq
      cases hh : fs.heads[q]? with
      | none => rw [hh] at hq; cases hq
      | some h1 =>
        rw [hh] at hq
        have hq : (if h1 = q then some q else headW m fs.heads h1) = some r := hq
        have ha : atI (fs.heads.map vN) (q : Int) = some (vN h1) := atI_nat (by rw [List.getElem?_map, hh]; rfl)
        refine ⟨_, rfl, p, _, dx, _, _, rfl, F.self, T.c_Folding.2, T.n_Folding_heads, rfl, _, rfl, a, _, _, _, rfl, rfl, SqL.of F.heads, ha, _, rfl, rfl, _, rfl, ?_⟩
        rw [ne_N]
        by_cases e : h1 = q
        · rw [if_pos e] at hq
          cases hq
          rw [decide_eq_true e]
          exact ⟨_, rfl, k⟩
        · rw [if_neg e] at hq
          rw [decide_eq_false e]
          exact ⟨fun σ' H' => H' = H1 ∧ ∃ q, σ' = [some (.ref p), some (vN q)] ∧ headW m fs.heads q = some r, fun _ _ p => ⟨m, Nat.lt_succ_self m, p⟩,
            _, rfl, p, _, dx, _, _, rfl, F.self, T.c_Folding.2, T.n_Folding_heads, rfl, _, rfl, a, _, _, _, rfl, rfl, SqL.of F.heads, ha, rfl, h1, rfl, hq⟩
/-! Folding.settle -/
def sp_Fold_settle (K : PySem.W.Frag) : Sp := fun vs H Q _ => ∃ (p t : Addr) (H0 : Hp) (fs fs' : FS) (r : Ro) (n : Nat), vs = [.ref p, .ref t] ∧ FoldAt K H0 H p fs ∧ H t = some (.tup (rV r)) ∧ settleM n fs r = some fs' ∧ ∀ H', Fr H0 H H' → FoldAt K H0 H' p fs' → Q .non H'
theorem sc_Fold_settle : FnScope ["self", "road", "first", "letter", "last", "there", "here"] ["self", "road"] (defScope s_folding_Folding_settle) := ⟨rfl, rfl, rfl, by decide +kernel, rfl, by decide +kernel, by decide +kernel⟩
theorem ok_Fold_settle (T : Txt K mg) : OkM P w K mg base 2 "Folding" "settle" ["self", "road"] (sp_Fold_settle K) := by
  refine okM_of T.f_folding_Folding_settle sc_Fold_settle (fun _ _ _ _ _ _ us hl => match us, hl with | [_, _], _ => rfl) (fun vs H Q E h => ?_) (fun f cdv A outer s H vs Q E hr h => ?_)
  · obtain ⟨p, t, H0, fs, fs', r, n, rfl, _⟩ := h
    rfl
  · have hu := hu_of hr
    refine ⟨_, pss_cons (ps_par3 (i := 2) (j := 3) (l := 4) rfl sc_Fold_settle.nd rfl rfl rfl (by decide) (by decide) (by decide) rfl rfl rfl
        (pa_cons (pe_okM (pv 0) T.c_Folding (ok_Fold_head T) hr passL (pa_cons (pe_ix ix_tup (pv 1) pe_int (fun _ _ => rfl)) pa_nil)) (pa_cons (pe_ix ix_tup (pv 1) pe_int (fun _ _ => rfl)) (pa_cons (pe_okM (pv 0) T.c_Folding (ok_Fold_head T) hr passL (pa_cons (pe_ix ix_tup (pv 1) pe_int (fun _ _ => rfl)) pa_nil)) pa_nil))) rfl)
      (pss_cons (ps_set (i := 5) sc_Fold_settle.nd rfl (Or.inl rfl) (pe_okM (pv 0) T.c_Folding (ok_Fold_head T) hr passL (pa_cons (pe_dget2 hu (pe_ix ix_list (pe_fld (pv 0) rfl) (pv 2) (fun _ _ => rfl)) (pv 3) (pv 4) ⟨rfl, rfl, rfl, rfl⟩) pa_nil)))
        (pss_cons (ps_set (i := 6) sc_Fold_settle.nd rfl (Or.inl rfl) (pe_okM (pv 0) T.c_Folding (ok_Fold_head T) hr passL (pa_cons (pe_dget2 hu (pe_ix ix_list (pe_fld (pv 0) rfl) (pv 4) (fun _ _ => rfl)) (pe_ok (ok_back_of T) hr passL (pa_cons (pv 3) pa_nil)) (pv 2) ⟨rfl, rfl, rfl, rfl⟩) pa_nil)))
          (pss_one (ps_if (pt_cmpR op_ne (pv 5) (pv 4) (nomark _)) pss_never (pss_one (ps_if (pt_cmpR op_ne (pv 6) (pv 2) (nomark _)) pss_never
            (pss_cons (ps_dput hu (pe_ix ix_list (pe_fld (pv 0) rfl) (pv 2) (fun _ _ => rfl)) (pv 3) (pv 4) rfl) (pss_one (ps_dput hu (pe_ix ix_list (pe_fld (pv 0) rfl) (pv 4) (fun _ _ => rfl)) (pe_ok (ok_back_of T) hr passL (pa_cons (pv 3) pa_nil)) (pv 2) rfl))))))))), ?_⟩
    obtain ⟨p, t, H0, fs, fs', ⟨r1, x, r2⟩, n, rfl, ⟨dx, a, b, c, ds, prs, F⟩, ht, hs, k⟩ := h
    unfold settleM at hs
    dsimp only at hs
    split at hs
    · rename_i first last e1 e2
      split at hs
      · rename_i s1 s2 e3 e4
        split at hs
        · rename_i there here e5 e6
          split at hs
          · rename_i ec
            split at hs
            · rename_i s3 e7
              split at hs
              · rename_i ec2
                obtain ⟨rfl, rfl, ec1⟩ := ec
                cases hs
                have hlen := F.len
                have l1 : here < ds.length := by rw [hlen]; exact (List.getElem?_eq_some_iff.mp e3).1
                have l2 : there < ds.length := by rw [hlen]; exact (List.getElem?_eq_some_iff.mp e4).1
                have d1 : ds[here]? = some ds[here] := by simp [l1]
                have d2 : ds[there]? = some ds[there] := by simp [l2]
                have g1 := F.dict _ _ _ d1 e3
                have g2 := F.dict _ _ _ d2 e4
                have dg1 := dget_l g1 x
                have dg2 := dget_l g2 (bk x)
                have hd0 : (F.self) = F.self := rfl
                refine ⟨_, rfl, p, dx, _, rfl, F.self, rfl, _, rfl, t, _, _, _, rfl, rfl, SqT.of ht, rfl, p, r1, H0, dx, a, b, c, ds, prs, fs, n, here, rfl, F, e1, ?_⟩
                refine ⟨_, rfl, t, _, _, _, rfl, rfl, SqT.of ht, rfl, ?_⟩
                refine ⟨_, rfl, p, dx, _, rfl, F.self, rfl, _, rfl, t, _, _, _, rfl, rfl, SqT.of ht, rfl, p, r2, H0, dx, a, b, c, ds, prs, fs, n, there, rfl, F, e2, _, _, _, rfl, ?_⟩
                have q1 : ((getA s1 x).map vN).getD (vN there) = vN ((getA s1 x).getD there) := by cases getA s1 x <;> rfl
                have q2 : ((getA s2 (bk x)).map vN).getD (vN here) = vN ((getA s2 (bk x)).getD here) := by cases getA s2 (bk x) <;> rfl
                refine ⟨_, rfl, p, dx, _, rfl, F.self, rfl, _, rfl, p, _, dx, _, _, rfl, F.self, T.c_Folding.2, T.n_Folding_steps, rfl, _, rfl, b, _, (here : Int), .ref ds[here], rfl, rfl, SqL.of F.steps, atI_nat (by rw [List.getElem?_map, d1]; rfl), ds[here], rfl, .inl ⟨_, .of g1⟩, _, rfl, _, rfl, _, dg1, ?_⟩
                rw [q1]
                refine ⟨p, _, H0, dx, a, b, c, ds, prs, fs, n, there, rfl, F, e5, ?_⟩
                refine ⟨_, rfl, p, dx, _, rfl, F.self, rfl, _, rfl, p, _, dx, _, _, rfl, F.self, T.c_Folding.2, T.n_Folding_steps, rfl, _, rfl, b, _, (there : Int), .ref ds[there], rfl, rfl, SqL.of F.steps, atI_nat (by rw [List.getElem?_map, d2]; rfl), ds[there], rfl, .inl ⟨_, .of g2⟩, _, rfl, x, rfl, _, rfl, _, dg2, ?_⟩
                rw [q2]
                refine ⟨p, _, H0, dx, a, b, c, ds, prs, fs, n, here, rfl, F, e6, ?_⟩
                refine ⟨_, rfl, _, rfl, rfl, _, rfl, ?_⟩
                rw [ne_N, decide_eq_true rfl]
                refine ⟨_, rfl, _, rfl, rfl, _, rfl, ?_⟩
                rw [ne_N, decide_eq_true rfl]
                refine ⟨_, rfl, _, rfl, p, _, dx, _, _, rfl, F.self, T.c_Folding.2, T.n_Folding_steps, rfl, _, rfl, b, _, (here : Int), .ref ds[here], rfl, rfl, SqL.of F.steps, atI_nat (by rw [List.getElem?_map, d1]; rfl), _, rfl, ds[here], _, rfl, DPut.k (k := kL x) g1 (by rw [encD_len]; exact big_lt (by omega)), ?_⟩
                have pe1 : putK (kvL s1) (kL x) (vN there) = kvL (putA s1 x there) := put_enc kL_inj x there s1
                rw [pe1]
                have F1 := F.setD (s' := putA s1 x there) d1 e3
                have fr1 := F.frD d1 e3 (.dK (kvL (putA s1 x there)))
                have g3 := F1.dict _ _ _ d2 e7
                refine ⟨_, rfl, _, rfl, p, _, dx, _, _, rfl, F1.self, T.c_Folding.2, T.n_Folding_steps, rfl, _, rfl, b, _, (there : Int), .ref ds[there], rfl, rfl, SqL.of F1.steps, atI_nat (by rw [List.getElem?_map, d2]; rfl), _, rfl, x, rfl, ds[there], _, rfl, DPut.k (k := kL (bk x)) g3 (by rw [encD_len]; exact big_lt (by omega)), ?_⟩
                have pe2 : putK (kvL s3) (kL (bk x)) (vN here) = kvL (putA s3 (bk x) here) := put_enc kL_inj (bk x) here s3
                rw [pe2]
                exact k _ (fr1.trans (F1.frD d2 e7 _)) ⟨dx, a, b, c, ds, prs, F1.setD d2 e7⟩
              · cases hs
            · cases hs
          · cases hs
        · cases hs
      · cases hs
    · cases hs
/-! Folding.put -/
def sp_Fold_put (K : PySem.W.Frag) : Sp := fun vs H Q _ => ∃ (p : Addr) (H0 : Hp) (fs fs' : FS) (r : Ro) (j n : Nat), vs = [.ref p, vN r.1, .str (lS r.2.1), vN r.2.2] ∧ FoldAt K H0 H p fs ∧ putM j n fs r = some fs' ∧ fs.waiting.length < 1000000 ∧ ∀ H', Fr H0 H H' → FoldAt K H0 H' p fs' → Q .non H'
theorem sc_Fold_put : FnScope ["self", "first", "letter", "last"] ["self", "first", "letter", "last"] (defScope s_folding_Folding_put) := ⟨rfl, rfl, rfl, by decide +kernel, rfl, by decide +kernel, by decide +kernel⟩
theorem ok_Fold_put (T : Txt K mg) : OkM P w K mg base 3 "Folding" "put" ["self", "first", "letter", "last"] (sp_Fold_put K) := by
  refine okM_of T.f_folding_Folding_put sc_Fold_put (fun _ _ _ _ _ _ us hl => match us, hl with | [_, _, _, _], _ => rfl) (fun vs H Q E h => ?_) (fun f cdv A outer s H vs Q E hr h => ?_)
  · obtain ⟨p, H0, fs, fs', r, j, n, rfl, _⟩ := h
    rfl
  · have hu := hu_of hr
    refine ⟨_, pss_cons (ps_expr (pe_bm PySem.F.plainAttrs_list PySem.F.slot_list_append PySem.F.type_list_append mt_append (pe_fld (pv 0) rfl) (pa_cons (pe_tup (pa_cons (pv 1) (pa_cons (pv 2) (pa_cons (pv 3) pa_nil)))) pa_nil)))
      (pss_one (ps_while (passes_of rfl) (pt_cmpR (op_neD hr.units) (pe_fld (pv 0) rfl) (pe_lst pa_nil) (nomark _))
        (pss_one (ps_expr (pe_okM (pv 0) T.c_Folding (ok_Fold_settle T) hr passL (pa_cons (pe_bm0 PySem.F.plainAttrs_list PySem.F.slot_list_pop PySem.F.type_list_pop mt_pop (pe_fld (pv 0) rfl)) pa_nil)))))), ?_⟩
    obtain ⟨p, H0, fs, fs', ⟨r1, x, r2⟩, j, n, rfl, ⟨dx, a, b, c, ds, prs, F⟩, hp, hw, k⟩ := h
    have hwl : prs.length < 1000000 := by rw [← F.same, List.length_map] at hw; exact hw
    refine ⟨_, rfl, p, _, dx, _, _, rfl, F.self, T.c_Folding.2, T.n_Folding_waiting, rfl, .inl ⟨rfl, _, SqL.of F.wait⟩, _, rfl, _, rfl, _, rfl, sz3, fun t ht => ?_⟩
    have F1 := F.ext (Ext.new (o := .tup (rV (r1, x, r2))) ht)
    refine ⟨c, _, _, rfl, rfl, F1.wait, by rw [List.length_map]; exact big_lt (by omega), ?_⟩
    have e1 : prV prs ++ [V.ref t] = prV (prs ++ [(t, (r1, x, r2))]) := by unfold prV; rw [List.map_append]; rfl
    rw [e1]
    have F2 := F1.setW (prs' := prs ++ [(t, (r1, x, r2))]) (fun q hq => by
      rcases List.mem_append.mp hq with hq | hq
      · exact F1.tups q hq
      · rw [List.mem_singleton] at hq
        subst hq
        exact upd_same)
    have fr2 : Fr H0 H _ := (Ext.new (o := .tup (rV (r1, x, r2))) ht).fr.trans (F1.frW (.lst (prV (prs ++ [(t, (r1, x, r2))]))))
    have e2 : ({ fs with waiting := (prs ++ [(t, (r1, x, r2))]).map (·.2) } : FS) = { fs with waiting := fs.waiting ++ [(r1, x, r2)] } := by rw [List.map_append, F.same]; rfl
    rw [e2] at F2
    refine ⟨fun m σ H1 => σ = [some (.ref p), some (vN r1), some (.str (lS x)), some (vN r2)] ∧ Fr H0 H H1 ∧ ∃ fs1, FoldAt K H0 H1 p fs1 ∧ drainM m n fs1 = some fs', ⟨j, rfl, fr2, _, ⟨dx, a, b, c, ds, _, F2⟩, hp⟩, fun m σ H1 pp => ?_⟩
    obtain ⟨rfl, fr, fs1, ⟨dx, a, b, c, ds, prs, F⟩, hdr⟩ := pp
    cases m with
    | zero => cases hdr
    | succ m =>
      refine ⟨_, rfl, p, _, dx, _, _, rfl, F.self, T.c_Folding.2, T.n_Folding_waiting, rfl, Nat.zero_le _, fun e he => ⟨_, _, .lst (SqL.of ((Ext.new he) _ _ F.wait)) (dp_prs (F.tups.ext (Ext.new he))), .lst (SqL.of upd_same) .nil, sh_prs prs, rfl, _, rfl, ?_⟩⟩
      rw [eqv_nil]
      have F1 := F.ext (Ext.new (o := .lst []) he)
      have fr1 := fr.trans (Ext.new (o := .lst []) he).fr
      unfold drainM at hdr
      rcases List.eq_nil_or_concat prs with rfl | ⟨q, y, rfl⟩
      · have e0 : fs1.waiting = [] := F.same.symm
        rw [e0] at hdr
        have hdr : some fs1 = some fs' := hdr
        cases hdr
        exact k _ fr1 ⟨dx, a, b, c, ds, [], F1⟩
      · rw [List.concat_eq_append] at *
        have e0 : fs1.waiting = q.map (·.2) ++ [y.2] := by rw [← F.same, List.map_append]; rfl
        have eg : fs1.waiting.getLast? = some y.2 := by rw [e0]; simp
        have ed : fs1.waiting.dropLast = q.map (·.2) := by rw [e0]; simp
        rw [eg] at hdr
        dsimp only at hdr
        rw [ed] at hdr
        have e1 : (List.map (fun p : Addr × Ro => roD p.2) (q ++ [y])).isEmpty = false := by simp
        rw [e1]
        split at hdr
        · rename_i fs2 hset
          refine ⟨fun σ' H' => σ' = [some (.ref p), some (vN r1), some (.str (lS x)), some (vN r2)] ∧ Fr H0 H H' ∧ ∃ fs1, FoldAt K H0 H' p fs1 ∧ drainM m n fs1 = some fs', fun _ _ p => ⟨m, Nat.lt_succ_self m, p⟩, ?_⟩
          refine ⟨_, rfl, p, dx, _, rfl, F1.self, rfl, ?_⟩
          refine ⟨_, rfl, p, _, dx, _, _, rfl, F1.self, T.c_Folding.2, T.n_Folding_waiting, rfl, .inl ⟨rfl, _, SqL.of F1.wait⟩, c, _, .ref y.1, rfl, rfl, F1.wait, (by simp [prV]), ?_⟩
          have e3 : (prV (q ++ [y])).dropLast = prV q := by unfold prV; rw [List.map_append]; simp
          rw [e3]
          have F3 := F1.setW (prs' := q) (fun z hz => F1.tups z (List.mem_append_left _ hz))
          have hy := F1.tups y (List.mem_append_right _ (List.mem_singleton.mpr rfl))
          refine ⟨p, y.1, H0, _, fs2, y.2, n, rfl, ⟨dx, a, b, c, ds, q, F3⟩, ?_, hset, fun H' fr' F' => ⟨rfl, (fr1.trans (F1.frW _)).trans fr', fs2, F', hdr⟩⟩
          rw [upd_ne (ne_at hy F1.wait (fun z => nomatch z))]
          exact hy
        · cases hdr
/-! Folding.roads -/
def sp_Fold_roads (K : PySem.W.Frag) : Sp := fun vs H Q _ => ∃ (p : Addr) (H0 : Hp) (fs : FS) (n : Nat), vs = [.ref p] ∧ FoldAt K H0 H p fs ∧ HeadsOk n fs ∧ fs.steps.length ≤ 4000000 ∧ (roadsM n fs).length ≤ 4000000 ∧ ∀ H' D prs, Ext H H' → H D = none → H' D = some (.lst (prV prs)) → PrsAt H' prs → prs.map (·.2) = roadsM n fs → Q (.ref D) H'
theorem sc_Fold_roads : FnScope ["self", "found", "place", "steps", "letter"] ["self"] (defScope s_folding_Folding_roads) := ⟨rfl, rfl, rfl, by decide +kernel, rfl, by decide +kernel, by decide +kernel⟩
theorem lo_at {i : Nat} {c : Nat} (h : loS.cps[i]? = some c) : i < 6 ∧ c = cp (loX i) := by
  have hi : i < 6 := (Array.getElem?_eq_some_iff.mp h).1
  refine ⟨hi, ?_⟩
  have : ∀ j : Fin 6, loS.cps[j.val]? = some (cp (loX j.val)) := by decide
  have e := this ⟨i, hi⟩
  rw [e] at h
  exact (Option.some.inj h).symm
theorem ok_Fold_roads (T : Txt K mg) : OkM P w K mg base 2 "Folding" "roads" ["self"] (sp_Fold_roads K) := by
  refine okM_of T.f_folding_Folding_roads sc_Fold_roads (fun _ _ _ _ _ _ us hl => match us, hl with | [_], _ => rfl) (fun vs H Q E h => ?_) (fun f cdv A outer s H vs Q E hr h => ?_)
  · obtain ⟨p, H0, fs, n, rfl, _⟩ := h
    rfl
  · have hu := hu_of hr
    refine ⟨_, pss_cons (ps_set (i := 1) sc_Fold_roads.nd rfl (Or.inl rfl) (pe_lst pa_nil)) (pss_cons (ps_for (passes_of rfl) rfl (pi_enum (by rfl) T.b_enumerate (pa_cons (pe_fld (pv 0) rfl) pa_nil)) (pg_tup rfl (pgs_cons (pg_name (i := 2) sc_Fold_roads.nd rfl (Or.inr rfl)) (pgs_cons (pg_name (i := 3) sc_Fold_roads.nd rfl (Or.inr rfl)) pgs_nil)))
      (pss_one (ps_expr (pe_bm PySem.F.plainAttrs_list PySem.F.slot_list_extend PySem.F.type_list_extend mt_extend (pv 1) (pa_cons
        (pe_lc (own := [("letter", 4)]) (g := gName 4) (tt := tB (tDIn (tVar 4) (tVar 3))) (te := tTup (tCons (tVar 2) (tCons (tVar 4) (tCons (tMeth (He.ga K "Folding") "head" (sp_Fold_head K) [] E0 (tVar 0) (tCons (tDGet (tVar 3) (tVar 4)) tNil)) tNil)))) rfl sc_Fold_roads.nd (pi_str (pe_gs T.g_words_LETTERS)) (blkOk_by (N := ["self", "found", "place", "steps", "letter"]) (sc := defScope s_folding_Folding_roads) (by decide +kernel))
          (fun _ _ _ _ _ => pg_name (i := 4) sc_Fold_roads.nd rfl (Or.inl rfl)) (fun _ _ _ _ _ => pts_one (pt_cmp (pc_din hu (pv 4) (pv 3)) rfl))
          (fun _ _ _ _ _ => pe_tup (pa_cons (pv 2) (pa_cons (pv 4) (pa_cons (pe_okM (pv 0) T.c_Folding (ok_Fold_head T) hr passL (pa_cons (pe_dget hu (pv 3) (pv 4) (fun _ _ => rfl)) pa_nil)) pa_nil))))) pa_nil)))))
      (pss_one (ps_ret (pv 1)))), ?_⟩
    obtain ⟨p, H0, fs, n, rfl, ⟨dx, a, b, c, ds, prs, F⟩, ho, hsl, hrl, k⟩ := h
    refine ⟨Nat.zero_le _, fun D hD => ?_⟩
    have F1 := F.ext (Ext.new (o := .lst []) hD)
    have hle : ∀ i, i ≤ fs.steps.length → ((List.range i).flatMap fun i => rowR n fs.heads i (fs.steps.getD i [])).length ≤ (roadsM n fs).length := fun i hi => by
      unfold roadsM
      have e : fs.steps.length = i + (fs.steps.length - i) := by omega
      rw [e, List.range_add, List.flatMap_append, List.length_append]
      omega
    have hrl : ∀ i s, (rowR n fs.heads i s).length ≤ 6 := fun i s => by
      unfold rowR
      have := List.length_filterMap_le (fun j => (getA s (loX j)).map fun q => (i, loX j, (headW n fs.heads q).getD 0)) (List.range 6)
      rw [List.length_range] at this
      exact this
    refine ⟨_, rfl, p, _, dx, _, _, rfl, F1.self, T.c_Folding.2, T.n_Folding_steps, rfl, b, rfs ds, rfl, SqL.of F1.steps, for_it (walk_enum (K := K) (a := b) (xs := rfs ds)) (fun i σ H1 => ∃ v2 v3 v4 q, σ = [some (.ref p), some (.ref D), v2, v3, v4] ∧ Ext H H1 ∧ H1 D = some (.lst (prV q)) ∧ PrsAt H1 q ∧
      q.map (·.2) = (List.range i).flatMap fun i => rowR n fs.heads i (fs.steps.getD i [])) ⟨_, _, _, [], rfl, Ext.new hD, upd_same, (fun _ z => nomatch z), rfl⟩ (fun i σ H1 _ pp => ?_) (fun i y σ Ha H1 hi pp yy => ?_) (fun σ H1 pp => ?_)⟩
    · obtain ⟨v2, v3, v4, q, rfl, x1, _⟩ := pp
      exact SqL.of (x1 _ _ F.steps)
    · obtain ⟨v2, v3, v4, q, rfl, x1, hd1, hq1, he1⟩ := pp
      obtain ⟨Tp, u, z, rfl, hT, rfl, hu, hz⟩ := yy
      cases hu
      obtain ⟨d, hdi, rfl⟩ := rfs_at hz
      have hil : i < fs.steps.length := by rw [← F.len]; exact (List.getElem?_eq_some_iff.mp hdi).1
      have hsi : fs.steps[i]? = some fs.steps[i] := by simp [hil]
      have hgd : fs.steps.getD i [] = fs.steps[i] := by rw [List.getD_eq_getElem?_getD, hsi]; rfl
      have w1 : Ext Ha (upd Ha Tp (.tup [vN i, .ref d])) := Ext.new hT
      refine ⟨Tp, _, rfl, SqT.of upd_same, rfl, _, _, rfl, _, _, rfl, rfl, ?_⟩
      have x2 := x1.trans w1
      have hd2 := w1 _ _ hd1
      have hq2 := hq1.ext w1
      revert x2 hd2 hq2
      generalize upd Ha Tp (.tup [vN i, .ref d]) = H2
      intro x2 hd2 hq2
      have hql : q.length ≤ 4000000 := by
        have e := congrArg List.length he1
        rw [List.length_map] at e
        have := hle i (by omega)
        omega
      refine ⟨_, rfl, .inl ⟨rfl, _, SqL.of hd2⟩, loS, rfl, fun E hE => lc_prs walk_str (fun j => (getA fs.steps[i] (loX j)).map fun q => (i, loX j, (headW n fs.heads q).getD 0)) hE (big_of (by show 6 ≤ _; decide)) (fun _ _ => True.intro) (fun j y Hb H3 Q' N hj x3 yy hq' hn' => ?_) (fun H3 prs3 x3 hE3 hp3 he3 => ?_)⟩
      · obtain ⟨rfl, cc, hc, rfl⟩ := yy
        obtain ⟨hj6, rfl⟩ := lo_at hc
        have F3 := F.ext (x2.trans x3)
        have hdd := F3.dict _ _ _ hdi hsi
        have dg := dget_l hdd (loX j)
        refine ⟨rfl, _, rfl, _, rfl, d, _, rfl, dg, _, rfl, ?_⟩
        cases e : getA fs.steps[i] (loX j) with
        | none => exact hn' _ (by rw [e]; rfl) Ext.rfl'
        | some qv =>
          obtain ⟨rr, hrr⟩ := Option.isSome_iff_exists.mp (ho _ (List.getElem_mem hil) (loX j) qv e)
          rw [e] at dg
          exact ⟨_, rfl, _, rfl, _, rfl, p, dx, _, rfl, F3.self, rfl, _, rfl, _, rfl, d, _, rfl, dg, p, qv, H0, dx, a, b, c, ds, prs, fs, n, rr, rfl, F3, hrr, sz3, fun t ht => hq' t (i, loX j, rr) _ (by rw [e]; show some (i, loX j, (headW n fs.heads qv).getD 0) = _; rw [hrr]; rfl) (Ext.new ht) upd_same⟩
      · have he3 : prs3.map (·.2) = rowR n fs.heads i fs.steps[i] := he3
        have h3l : prs3.length ≤ 6 := by
          have e := congrArg List.length he3
          rw [List.length_map] at e
          have := hrl i fs.steps[i]
          omega
        have hd3 := x3 _ _ hd2
        refine ⟨D, E, _, _, rfl, rfl, hd3, hE3, by rw [List.length_map, List.length_map]; exact big_of (by omega), _, _, _, q ++ prs3, rfl, Ext.put hD (x2.trans x3), ?_, fun z hz => ?_, ?_⟩
        · rw [upd_same]
          unfold prV
          rw [List.map_append]
        · rcases List.mem_append.mp hz with hz | hz
          · have hb := x3 _ _ (hq2 z hz)
            rw [upd_ne (ne_at hb hd3 (fun z => nomatch z))]
            exact hb
          · have hb := hp3 z hz
            rw [upd_ne (ne_at hb hd3 (fun z => nomatch z))]
            exact hb
        · rw [List.map_append, he1, he3, List.range_succ, List.flatMap_append]
          simp only [List.flatMap_cons, List.flatMap_nil, List.append_nil]
          rw [hgd]
    · obtain ⟨v2, v3, v4, q, rfl, x1, hd1, hq1, he1⟩ := pp
      refine ⟨_, rfl, k _ D q x1 hD hd1 hq1 ?_⟩
      rw [he1, List.length_map, F.len]
      rfl
end
end BW


set_option Elab.async false
set_option linter.all false
set_option maxRecDepth 100000
set_option maxHeartbeats 4000000
namespace BW
open PySem PySem.Spec PyProof.Rows L2 BwR BwE BwD BwS
section
variable {P : Program} {w : World} {K : PySem.W.Frag} {mg : Str → Option Value} {base : Heap}
/-! beside, where all roads are loops at 0 -/
def sp_beside : Sp := fun vs H Q _ => ∃ (a : Addr) (prs : List (Addr × Ro)), vs = [.ref a] ∧ H a = some (.lst (prV prs)) ∧ PrsAt H prs ∧ Loops prs ∧ prs.length ≤ 1000000 ∧
  ∀ H' D N, Ext H H' → H D = none → H' D = some (.dK [(kN 0, .ref N)]) → H' N = some (.lst ((List.replicate (2 * prs.length) 0).map vN)) → Q (.ref D) H'
theorem sc_beside : FnScope ["roads", "found", "first", "letter", "last"] ["roads"] (defScope s_folding_beside) := ⟨rfl, rfl, rfl, by decide +kernel, rfl, by decide +kernel, by decide +kernel⟩
theorem ok_beside (T : Txt K mg) : Ok P w K mg base 1 (n_folding_beside) ["roads"] sp_beside := by
  refine ok_of T.f_folding_beside sc_beside (fun _ _ _ _ _ _ us hl => match us, hl with | [_], _ => rfl) (fun vs H Q E h => ?_) (fun f cdv A outer s H vs Q E hr h => ?_)
  · obtain ⟨a, prs, rfl, _⟩ := h
    rfl
  · have hu := hu_of hr
    refine ⟨_, pss_cons (ps_set (i := 1) sc_beside.nd rfl (Or.inl rfl) (pe_disp (pps_cons pe_int (pe_lst pa_nil) pps_nil) (by rfl) (by rfl) (fun z => by cases z) (by decide)))
      (pss_cons (ps_for (passes_of rfl) rfl (pi_list (pv 0)) (pg_tup rfl (pgs_cons (pg_name (i := 2) sc_beside.nd rfl (Or.inl rfl)) (pgs_cons (pg_name (i := 3) sc_beside.nd rfl (Or.inl rfl)) (pgs_cons (pg_name (i := 4) sc_beside.nd rfl (Or.inl rfl)) pgs_nil))))
        (pss_cons (ps_expr (pe_bm PySem.F.plainAttrs_list PySem.F.slot_list_append PySem.F.type_list_append mt_append (pe_dsetd (pv 1) (pv 2) (pe_lst pa_nil) ⟨rfl, rfl, rfl, rfl⟩) (pa_cons (pv 4) pa_nil)))
          (pss_one (ps_expr (pe_bm PySem.F.plainAttrs_list PySem.F.slot_list_append PySem.F.type_list_append mt_append (pe_dsetd (pv 1) (pv 4) (pe_lst pa_nil) ⟨rfl, rfl, rfl, rfl⟩) (pa_cons (pv 2) pa_nil))))))
        (pss_one (ps_ret (pv 1)))), ?_⟩
    obtain ⟨a, prs, rfl, ha, hp, hlo, hsz, k⟩ := h
    refine fun D hD => ⟨Nat.zero_le _, fun N hN => ⟨(Ext.new hN) _ _ upd_same, [(kN 0, .ref N)], rfl, (by show 1 ≤ 15; decide), ?_⟩⟩
    have nN : N ≠ D := fun e => by rw [e, upd_same] at hN; cases hN
    have hN0 : H N = none := (Ext.new (o := .dK []) hD).fresh hN
    refine ⟨_, rfl, a, rfl, ⟨prV prs, SqL.of ?_⟩, for_it (walk_list (K := K) (a := a) (xs := prV prs)) (fun i σ H1 => (∃ v2 v3 v4, σ = [some (.ref a), some (.ref D), v2, v3, v4]) ∧ Ext H H1 ∧ H1 D = some (.dK [(kN 0, .ref N)]) ∧ H1 N = some (.lst ((List.replicate (2 * i) 0).map vN)))
      ⟨⟨_, _, _, rfl⟩, Ext.put hD ((Ext.new hD).trans (Ext.new hN)), upd_same, ?_⟩ (fun i σ H1 _ p => SqL.of (p.2.1 _ _ ha)) (fun i x σ Ha H1 hi p y => ?_) (fun σ H1 p => ?_)⟩
    · exact (Ext.put hD ((Ext.new hD).trans (Ext.new hN))) _ _ ha
    · rw [upd_ne nN, upd_same]
      rfl
    · obtain ⟨⟨v2, v3, v4, rfl⟩, x1, hd, hn⟩ := p
      obtain ⟨rfl, hv⟩ := y
      obtain ⟨⟨t, r1, x, r2⟩, hpp, rfl⟩ := prV_at hv
      have hm := List.mem_of_getElem? hpp
      obtain ⟨e1, e2⟩ := hlo _ hm
      have e1 : r1 = 0 := e1
      have e2 : r2 = 0 := e2
      subst e1
      subst e2
      have hil : i < prs.length := (List.getElem?_eq_some_iff.mp hpp).1
      have ht := x1 _ _ (hp _ hm)
      have vv : valV ([(kN 0, V.ref N)] : List (Key × V)) (kN 0) = some (.ref N) := rfl
      refine ⟨t, _, rfl, SqT.of ht, rfl, _, _, rfl, _, _, rfl, _, _, rfl, rfl, ?_⟩
      refine ⟨_, rfl, D, rfl, .inl ⟨_, .of hd⟩, _, rfl, Nat.zero_le _, fun e he => ⟨_, kN 0, (Ext.new he) _ _ hd, rfl, (by show 1 < sizeLine; exact big_lt (by decide)), fun v hv => ?_, fun hv => by rw [vv] at hv; cases hv⟩⟩
      rw [vv] at hv
      cases hv
      have w1 : Ext H1 (upd H1 e (.lst [])) := Ext.new he
      have hn1 := w1 _ _ hn
      refine ⟨.inl ⟨rfl, _, SqL.of hn1⟩, _, rfl, N, _, _, rfl, rfl, hn1, by simp; exact big_lt (by omega), ?_⟩
      have hd2 : upd (upd H1 e (.lst [])) N (.lst ((List.replicate (2 * i) 0).map vN ++ [vN 0])) D = some (.dK [(kN 0, .ref N)]) := by rw [upd_ne (Ne.symm nN)]; exact w1 _ _ hd
      have x2 : Ext H (upd (upd H1 e (.lst [])) N (.lst ((List.replicate (2 * i) 0).map vN ++ [vN 0]))) := Ext.put hN0 (x1.trans w1)
      have hn2 : upd (upd H1 e (.lst [])) N (.lst ((List.replicate (2 * i) 0).map vN ++ [vN 0])) N = some (.lst ((List.replicate (2 * i) 0).map vN ++ [vN 0])) := upd_same
      revert hd2 x2 hn2
      generalize upd (upd H1 e (.lst [])) N (.lst ((List.replicate (2 * i) 0).map vN ++ [vN 0])) = H2
      intro hd2 x2 hn2
      refine ⟨_, rfl, D, rfl, .inl ⟨_, .of hd2⟩, _, rfl, Nat.zero_le _, fun e he => ⟨_, kN 0, (Ext.new he) _ _ hd2, rfl, (by show 1 < sizeLine; exact big_lt (by decide)), fun v hv => ?_, fun hv => by rw [vv] at hv; cases hv⟩⟩
      rw [vv] at hv
      cases hv
      have w2 : Ext H2 (upd H2 e (.lst [])) := Ext.new he
      have hn3 := w2 _ _ hn2
      refine ⟨.inl ⟨rfl, _, SqL.of hn3⟩, _, rfl, N, _, _, rfl, rfl, hn3, by simp; exact big_lt (by omega), ⟨_, _, _, rfl⟩, Ext.put hN0 (x2.trans w2), ?_, ?_⟩
      · rw [upd_ne (Ne.symm nN)]
        exact w2 _ _ hd2
      · rw [upd_same]
        have e3 : 2 * (i + 1) = 2 * i + 1 + 1 := by omega
        rw [e3, List.replicate_succ', List.replicate_succ', List.map_append, List.map_append]
        rfl
    · obtain ⟨⟨v2, v3, v4, rfl⟩, x1, hd, hn⟩ := p
      refine ⟨_, rfl, k _ D N x1 hD hd ?_⟩
      rw [hn, List.length_map]
/-! led_to, from 0 to 0 alone -/
def sp_led_to : Sp := fun vs H Q _ => ∃ (d N : Addr) (m : Nat), vs = [.ref d] ∧ H d = some (.dK [(kN 0, .ref N)]) ∧ H N = some (.lst ((List.replicate m 0).map vN)) ∧
  ∀ H' D, Ext H H' → H D = none → H' D = some (.dK [(kN 0, .bl true)]) → Q (.ref D) H'
theorem sc_led_to : FnScope ["near", "found", "waiting", "there"] ["near"] (defScope s_folding_led_to) := ⟨rfl, rfl, rfl, by decide +kernel, rfl, by decide +kernel, by decide +kernel⟩
theorem ok_led_to (T : Txt K mg) : Ok P w K mg base 1 (n_folding_led_to) ["near"] sp_led_to := by
  refine ok_of T.f_folding_led_to sc_led_to (fun _ _ _ _ _ _ us hl => match us, hl with | [_], _ => rfl) (fun vs H Q E h => ?_) (fun f cdv A outer s H vs Q E hr h => ?_)
  · obtain ⟨d, N, m, rfl, _⟩ := h
    rfl
  · have hu := hu_of hr
    refine ⟨_, pss_cons (ps_set (i := 1) sc_led_to.nd rfl (Or.inl rfl) (pe_disp (pps_cons pe_int pe_bl pps_nil) (by rfl) (by rfl) (fun z => by cases z) (by decide)))
      (pss_cons (ps_set (i := 2) sc_led_to.nd rfl (Or.inl rfl) (pe_lst (pa_cons pe_int pa_nil))) (pss_cons (ps_while (passes_of rfl) (pt_cmpR (op_neD hr.units) (pv 2) (pe_lst pa_nil) (nomark _))
        (pss_one (ps_for (passes_of rfl) rfl (pi_list (pe_dget hu (pv 0) (pe_bm0 PySem.F.plainAttrs_list PySem.F.slot_list_pop PySem.F.type_list_pop mt_pop (pv 2)) (fun _ _ => rfl))) (pg_name (i := 3) sc_led_to.nd rfl (Or.inl rfl))
          (pss_one (ps_if (pt_cmp (pc_dnotin hu (pv 3) (pv 1)) rfl) pss_never pss_nil)))))
        (pss_one (ps_ret (pv 1))))), ?_⟩
    obtain ⟨d, N, m, rfl, hd, hn, k⟩ := h
    refine fun D hD => ⟨upd_same, [(kN 0, .bl true)], rfl, (by show 1 ≤ 15; decide), ?_⟩
    have x0 : Ext H (upd (upd H D (.dK [])) D (.dK [(kN 0, .bl true)])) := Ext.put hD (Ext.new hD)
    have y0 : upd (upd H D (.dK [])) D (.dK [(kN 0, .bl true)]) D = some (.dK [(kN 0, .bl true)]) := upd_same
    refine ⟨sz1, fun W hW => ⟨fun i σ H1 => ∃ ws v3, σ = [some (.ref d), some (.ref D), some (.ref W), v3] ∧ Ext H H1 ∧ H1 D = some (.dK [(kN 0, .bl true)]) ∧ H1 W = some (.lst ws) ∧ ((ws = [vN 0] ∧ i = 1) ∨ ws = []), ⟨1, [vN 0], _, rfl, x0.trans (Ext.new hW), (Ext.new hW) _ _ y0, upd_same, .inl ⟨rfl, rfl⟩⟩, fun i σ H1 p => ?_⟩⟩
    have hWn : H W = none := x0.fresh hW
    obtain ⟨ws, v3, rfl, x1, hd1, hw1, hc⟩ := p
    have nDW : D ≠ W := ne_at hd1 hw1 (fun z => nomatch z)
    rcases hc with ⟨rfl, rfl⟩ | rfl
    · refine ⟨_, rfl, Nat.zero_le _, fun e he => ⟨_, _, .lst (SqL.of ((Ext.new he) _ _ hw1)) (.cons (.int _) .nil), .lst (SqL.of upd_same) .nil, (by decide), rfl, true, rfl, ?_⟩⟩
      have w1 : Ext H1 (upd H1 e (.lst [])) := Ext.new he
      have hw2 := w1 _ _ hw1
      refine ⟨fun σ' H' => ∃ ws v3, σ' = [some (.ref d), some (.ref D), some (.ref W), v3] ∧ Ext H H' ∧ H' D = some (.dK [(kN 0, .bl true)]) ∧ H' W = some (.lst ws) ∧ ((ws = [vN 0] ∧ (0 : Nat) = 1) ∨ ws = []), fun _ _ p => ⟨0, by decide, p⟩, ?_⟩
      refine ⟨_, rfl, _, rfl, .inl ⟨rfl, _, SqL.of hw2⟩, W, _, vN 0, rfl, rfl, hw2, rfl, d, .ref N, rfl, ?_, N, rfl, ⟨(List.replicate m 0).map vN, SqL.of ?_⟩, for_it (walk_list (K := K) (a := N) (xs := (List.replicate m 0).map vN)) (fun i σ H2 => ∃ v3, σ = [some (.ref d), some (.ref D), some (.ref W), v3] ∧ Ext H H2 ∧ H2 D = some (.dK [(kN 0, .bl true)]) ∧ H2 W = some (.lst []))
        ⟨_, rfl, Ext.put hWn (x1.trans w1), ?_, upd_same⟩ (fun i σ H2 _ p => ?_) (fun i x σ Ha H2 hi p y => ?_) (fun σ H2 p => ?_)⟩
      · exact DGet.k (k := kN 0) ((Ext.put hWn (x1.trans w1)) _ _ hd)
      · exact (Ext.put hWn (x1.trans w1)) _ _ hn
      · rw [upd_ne nDW]
        exact w1 _ _ hd1
      · obtain ⟨v3, rfl, x2, _⟩ := p
        exact SqL.of (x2 _ _ hn)
      · obtain ⟨v3, rfl, x2, hd2, hw2⟩ := p
        obtain ⟨rfl, hx⟩ := y
        have e : x = vN 0 := by
          obtain ⟨q, hq, rfl⟩ := List.mem_map.mp (List.mem_of_getElem? hx)
          rw [(List.mem_replicate.mp hq).2]
        subst e
        exact ⟨_, rfl, _, rfl, D, _, rfl, DGet.k (k := kN 0) hd2, _, rfl, _, rfl, x2, hd2, hw2⟩
      · obtain ⟨v3, rfl, x2, hd2, hw2⟩ := p
        exact ⟨[], _, rfl, x2, hd2, hw2, .inr rfl⟩
    · refine ⟨_, rfl, Nat.zero_le _, fun e he => ⟨_, _, .lst (SqL.of ((Ext.new he) _ _ hw1)) .nil, .lst (SqL.of upd_same) .nil, (by decide), rfl, false, rfl, ?_⟩⟩
      exact ⟨_, rfl, k _ D (x1.trans (Ext.new he)) hD ((Ext.new he) _ _ hd1)⟩
end
end BW


set_option Elab.async false
set_option linter.all false
set_option maxRecDepth 100000
set_option maxHeartbeats 4000000
namespace BW
open PySem PySem.Spec PyProof.Rows L2 BwR BwE BwD BwS
section
variable {P : Program} {w : World} {K : PySem.W.Frag} {mg : Str → Option Value} {base : Heap}
/-! cut, of loops -/
def sp_cut : Sp := fun vs H Q _ => ∃ (a : Addr) (prs : List (Addr × Ro)), vs = [.ref a] ∧ H a = some (.lst (prV prs)) ∧ PrsAt H prs ∧ Loops prs ∧ prs.length ≤ 1000000 ∧ ∀ H' D, Ext H H' → H D = none → H' D = some (.lst (prV prs)) → Q (.ref D) H'
theorem sc_cut : FnScope ["roads", "near", "held", "ends", "place", "there", "road"] ["roads"] (defScope s_folding_cut) := ⟨rfl, rfl, rfl, by decide +kernel, rfl, by decide +kernel, by decide +kernel⟩
theorem ok_cut (T : Txt K mg) : Ok P w K mg base 2 (n_folding_cut) ["roads"] sp_cut := by
  refine ok_of T.f_folding_cut sc_cut (fun _ _ _ _ _ _ us hl => match us, hl with | [_], _ => rfl) (fun vs H Q E h => ?_) (fun f cdv A outer s H vs Q E hr h => ?_)
  · obtain ⟨a, prs, rfl, _⟩ := h
    rfl
  · have hu := hu_of hr
    refine ⟨_, pss_cons (ps_set (i := 1) sc_cut.nd rfl (Or.inr rfl) (pe_ok (ok_beside T) hr passL (pa_cons (pv 0) pa_nil))) (pss_cons (ps_set (i := 2) sc_cut.nd rfl (Or.inr rfl) (pe_ok (ok_led_to T) hr passL (pa_cons (pv 1) pa_nil)))
      (pss_cons (ps_lock (ps_setLc (i := 3) (own := [("place", 4)]) (g := gName 4) (tt := tAnd (tTest (tOp rNe (tVar 4) (tC (.int 0)))) tNo) (te := tVar 4) rfl sc_cut.nd rfl rfl (sw_true rfl rfl rfl (by decide +kernel)) (pi_keys (pv 2)) (blkOk_by (N := ["roads", "near", "held", "ends", "place", "there", "road"]) (sc := defScope s_folding_cut) (by decide +kernel))
          (fun _ _ _ _ _ => pg_name (i := 4) sc_cut.nd rfl (Or.inl rfl)) (fun _ _ _ _ _ => pts_one (pw_and (pt_cmpR op_ne (pv 4) pe_int (nomark _)) (pw_and1 pt_no)).pt) (fun _ _ _ _ _ => pv 4)))
        (pss_cons (ps_while (passes_of rfl) (pt_cmpR (op_neD hr.units) (pv 3) (pe_lst pa_nil) (nomark _)) pss_never)
          (pss_one (ps_ret (pe_lc (own := [("road", 6)]) (g := gName 6) (tt := tAnd (tB (tDIn (tI K 6 0) (tVar 2))) (tB (tDIn (tI K 6 2) (tVar 2)))) (te := tVar 6) rfl sc_cut.nd (pi_list (pv 0)) (blkOk_by (N := ["roads", "near", "held", "ends", "place", "there", "road"]) (sc := defScope s_folding_cut) (by decide +kernel))
            (fun _ _ _ _ _ => pg_name (i := 6) sc_cut.nd rfl (Or.inl rfl)) (fun _ _ _ _ _ => pts_one (pw_and (pt_cmp (pc_din hu (pe_ix ix_tup (pv 6) pe_int (fun _ _ => rfl)) (pv 2)) rfl) (pw_and1 (pt_cmp (pc_din hu (pe_ix ix_tup (pv 6) pe_int (fun _ _ => rfl)) (pv 2)) rfl))).pt) (fun _ _ _ _ _ => pv 6))))))), ?_⟩
    obtain ⟨a, prs, rfl, ha, hp, hlo, hsz, k⟩ := h
    refine ⟨_, rfl, a, prs, rfl, ha, hp, hlo, hsz, fun H1 D N x1 _ hd hn => ⟨_, rfl, D, N, _, rfl, hd, hn, fun H2 D2 x2 _ hd2 => ?_⟩⟩
    have x12 := x1.trans x2
    refine ⟨D2, _, hd2, True.intro, fun od => ⟨_, rfl, D2, od, rfl, .inl ⟨_, upd_same, fun E hE => lc_flt (walk_keys (d := D2) (o := od) (kvs := [(kN 0, V.bl true)])) (fun _ => none) hE (big_of (by show 1 ≤ _; decide)) (fun H' x => x _ _ upd_same) (fun i v Ha H3 Q' N' hi x3 y hq hn' => ?_) (fun H3 x3 hE3 => ?_)⟩⟩⟩
    · obtain ⟨rfl, kk, vv, hkv, rfl⟩ := y
      have hi0 : i = 0 := by
        have : ([(kN 0, V.bl true)] : List (Key × V)).length = 1 := rfl
        omega
      subst hi0
      cases hkv
      exact ⟨rfl, _, rfl, rfl, _, rfl, hn' _ rfl Ext.rfl'⟩
    · have hE3 : H3 E = some (.lst []) := hE3
      refine ⟨x3 _ _ upd_same, ?_⟩
      have x4 : Ext H2 (upd H3 D2 (.dK [(kN 0, .bl true)])) := ext_unlock hd2 x3
      have nE : E ≠ D2 := fun e => by rw [e, upd_same] at hE; cases hE
      have hE4 : upd H3 D2 (.dK [(kN 0, .bl true)]) E = some (.lst []) := by rw [upd_ne nE]; exact hE3
      have hd4 : upd H3 D2 (.dK [(kN 0, .bl true)]) D2 = some (.dK [(kN 0, .bl true)]) := upd_same
      revert x4 hE4 hd4
      generalize upd H3 D2 (.dK [(kN 0, .bl true)]) = H4
      intro x4 hE4 hd4
      refine ⟨fun m σ H5 => (∃ v4 v5 v6, σ = [some (.ref a), some (.ref D), some (.ref D2), some (.ref E), v4, v5, v6]) ∧ Ext H4 H5, ⟨0, ⟨_, _, _, rfl⟩, Ext.rfl'⟩, fun m σ H5 pp => ?_⟩
      obtain ⟨⟨v4, v5, v6, rfl⟩, x5⟩ := pp
      have hE5 := x5 _ _ hE4
      refine ⟨_, rfl, Nat.zero_le _, fun e he => ⟨_, _, .lst (SqL.of ((Ext.new he) _ _ hE5)) .nil, .lst (SqL.of upd_same) .nil, (by decide), rfl, false, rfl, ?_⟩⟩
      have x6 := x5.trans (Ext.new (o := .lst []) he)
      have x06 := (x12.trans x4).trans x6
      refine ⟨_, rfl, a, rfl, ⟨_, SqL.of (x06 _ _ ha)⟩, fun F hF => lc_flt walk_list (fun i => prs[i]?.bind fun p => if (fun _ : Ro => true) p.2 = true then some (.ref p.1) else none) hF (by rw [List.length_map]; exact big_of (by omega)) (fun H' x => SqL.of (x _ _ (x06 _ _ ha))) (fun i v Ha H7 Q' N' hi x7 y hq hn' => ?_) (fun H7 x7 hF7 => ?_)⟩
      · obtain ⟨rfl, hv⟩ := y
        obtain ⟨⟨t, r1, x, r2⟩, hpp, rfl⟩ := prV_at hv
        have hm := List.mem_of_getElem? hpp
        obtain ⟨rfl, rfl⟩ := hlo.at hm
        rw [hpp] at hq
        have ht := (x06.trans x7) _ _ (hp _ hm)
        have hd7 := (x6.trans x7) _ _ hd4
        exact ⟨rfl, _, rfl, t, _, _, _, rfl, rfl, SqT.of ht, rfl, _, rfl, D2, _, rfl, DGet.k (k := kN 0) hd7, true, rfl, _, rfl, t, _, _, _, rfl, rfl, SqT.of ht, rfl, _, rfl, D2, _, rfl, DGet.k (k := kN 0) hd7, true, rfl, _, rfl, hq _ _ rfl Ext.rfl'⟩
      · rw [List.length_map, flt_all] at hF7
        exact k _ F (x06.trans x7) (x06.fresh hF) hF7
/-! plain_web, of loops -/
def sp_plain_web (K : PySem.W.Frag) : Sp := fun vs H Q _ => ∃ (a : Addr) (prs : List (Addr × Ro)) (m : Nat) (rs2 : List Ro) (st2 : St), vs = [.ref a] ∧ H a = some (.lst (prV prs)) ∧ PrsAt H prs ∧ Loops prs ∧ prs.length ≤ 1000000 ∧ PlainOf (prs.map (·.2)) m rs2 st2 ∧ ∀ H' p, Ext H H' → H p = none → WebAt K H' p m st2 (srt rs2) → Q (.ref p) H'
theorem sc_plain_web : FnScope ["roads", "left", "numbers", "first", "letter", "last", "place"] ["roads"] (defScope s_folding_plain_web) := ⟨rfl, rfl, rfl, by decide +kernel, rfl, by decide +kernel, by decide +kernel⟩
theorem ok_plain_web (T : Txt K mg) : Ok P w K mg base 6 (n_folding_plain_web) ["roads"] (sp_plain_web K) := by
  refine ok_of T.f_folding_plain_web sc_plain_web (fun _ _ _ _ _ _ us hl => match us, hl with | [_], _ => rfl) (fun vs H Q E h => ?_) (fun f cdv A outer s H vs Q E hr h => ?_)
  · obtain ⟨a, prs, m, rs2, st2, rfl, _⟩ := h
    rfl
  · have hu := hu_of hr
    refine ⟨_, pss_cons (ps_set (i := 1) sc_plain_web.nd rfl (Or.inl rfl) (pe_ok (ok_cut T) (hr.mono (by decide)) passL (pa_cons (pv 0) pa_nil))) (pss_cons (ps_set (i := 2) sc_plain_web.nd rfl (Or.inr rfl) (pe_disp (pps_cons pe_int pe_int pps_nil) (by rfl) (by rfl) (fun z => by cases z) (by decide)))
      (pss_cons (ps_for (passes_of rfl) rfl (pi_list (pv 1)) (pg_tup rfl (pgs_cons (pg_name (i := 3) sc_plain_web.nd rfl (Or.inl rfl)) (pgs_cons (pg_name (i := 4) sc_plain_web.nd rfl (Or.inl rfl)) (pgs_cons (pg_name (i := 5) sc_plain_web.nd rfl (Or.inl rfl)) pgs_nil))))
          (pss_one (ps_for (passes_of rfl) rfl (pi_tup (pe_tup (pa_cons (pv 3) (pa_cons (pv 5) pa_nil)))) (pg_name (i := 6) sc_plain_web.nd rfl (Or.inl rfl)) (pss_one (ps_expr (pe_dsetd (pv 2) (pv 6) (pe_callB call_lenD (by rfl) T.b_len PySem.boot_len (pa_cons (pv 2) pa_nil)) ⟨rfl, rfl, rfl, rfl⟩))))))
        (pss_cons (ps_if (pt_cmpR op_gt (pe_callB call_lenD (by rfl) T.b_len PySem.boot_len (pa_cons (pv 2) pa_nil)) (pe_gi T.g_webs_MOST_PLACES) (nomark _)) pss_never pss_nil)
          (pss_one (ps_ret (pe_ok (ok_plain_of T) hr passL (pa_cons (pe_lc (own := [("first", 3), ("letter", 4), ("last", 5)]) (g := gTup K 3 (gCons (gName 3) (gCons (gName 4) (gCons (gName 5) gNil)))) (tt := tYes) (te := tTup (tCons (tDGet (tVar 2) (tVar 3)) (tCons (tVar 4) (tCons (tDGet (tVar 2) (tVar 5)) tNil)))) rfl sc_plain_web.nd (pi_list (pv 1))
            (blkOk_by (N := ["roads", "left", "numbers", "first", "letter", "last", "place"]) (sc := defScope s_folding_plain_web) (by decide +kernel)) (fun _ _ _ _ _ => pg_tup rfl (pgs_cons (pg_name (i := 3) sc_plain_web.nd rfl (Or.inl rfl)) (pgs_cons (pg_name (i := 4) sc_plain_web.nd rfl (Or.inl rfl)) (pgs_cons (pg_name (i := 5) sc_plain_web.nd rfl (Or.inl rfl)) pgs_nil)))) (fun _ _ _ _ _ => pts_nil)
            (fun _ _ _ _ _ => pe_tup (pa_cons (pe_dget hu (pv 2) (pv 3) (fun _ _ => rfl)) (pa_cons (pv 4) (pa_cons (pe_dget hu (pv 2) (pv 5) (fun _ _ => rfl)) pa_nil))))) pa_nil))))))), ?_⟩
    obtain ⟨a, prs, m, rs2, st2, rfl, ha, hp, hlo, hsz, hpl, k⟩ := h
    refine ⟨_, rfl, a, prs, rfl, ha, hp, hlo, hsz, fun H1 L1 x1 _ hl => ?_⟩
    refine fun D hD => ⟨upd_same, [(kN 0, vN 0)], rfl, (by show 1 ≤ 15; decide), ?_⟩
    have x2 : Ext H1 (upd (upd H1 D (.dK [])) D (.dK [(kN 0, vN 0)])) := Ext.put hD (Ext.new hD)
    have hp1 := hp.ext x1
    have vv : valV ([(kN 0, vN 0)] : List (Key × V)) (kN 0) = some (vN 0) := rfl
    refine ⟨_, rfl, L1, rfl, ⟨prV prs, SqL.of (x2 _ _ hl)⟩, for_it (walk_list (K := K) (a := L1) (xs := prV prs)) (fun i σ H2 => (∃ v3 v4 v5 v6, σ = [some (.ref a), some (.ref L1), some (.ref D), v3, v4, v5, v6]) ∧ Ext H1 H2 ∧ H2 D = some (.dK [(kN 0, vN 0)]))
      ⟨⟨_, _, _, _, rfl⟩, x2, upd_same⟩ (fun i σ H2 _ p => SqL.of (p.2.1 _ _ hl)) (fun i y σ Ha H2 hi p yy => ?_) (fun σ H2 p => ?_)⟩
    · obtain ⟨⟨v3, v4, v5, v6, rfl⟩, x3, hd3⟩ := p
      obtain ⟨rfl, hv⟩ := yy
      obtain ⟨⟨t, r1, x, r2⟩, hpp, rfl⟩ := prV_at hv
      have hm := List.mem_of_getElem? hpp
      obtain ⟨rfl, rfl⟩ := hlo.at hm
      refine ⟨t, _, rfl, SqT.of (x3 _ _ (hp1 _ hm)), rfl, _, _, rfl, _, _, rfl, _, _, rfl, rfl, ?_⟩
      refine ⟨_, rfl, _, rfl, sz2, fun tp htp => ⟨tp, rfl, ⟨[vN 0, vN 0], SqT.of upd_same⟩, for_it (walk_tup (K := K) (a := tp) (xs := [vN 0, vN 0])) (fun j σ H3 => (∃ v6, σ = [some (.ref a), some (.ref L1), some (.ref D), some (vN 0), some (.str (lS x)), some (vN 0), v6]) ∧ Ext (upd H2 tp (.tup [vN 0, vN 0])) H3 ∧ H3 D = some (.dK [(kN 0, vN 0)]))
        ⟨⟨_, rfl⟩, Ext.rfl', (Ext.new htp) _ _ hd3⟩ (fun j σ H3 _ p => SqT.of (p.2.1 _ _ upd_same)) (fun j y σ Hb H3 hj p yy => ?_) (fun σ H3 p => ?_)⟩⟩
      · obtain ⟨⟨v6, rfl⟩, x4, hd4⟩ := p
        obtain ⟨rfl, hy⟩ := yy
        have e : y = vN 0 := by
          have := List.mem_of_getElem? hy
          simpa using this
        subst e
        exact ⟨_, rfl, D, rfl, .inl ⟨_, .of hd4⟩, _, rfl, _, rfl, D, _, rfl, hd4, _, kN 0, hd4, rfl, (by show 1 < sizeLine; exact big_lt (by decide)), fun v hv => ⟨⟨_, rfl⟩, x4, hd4⟩, fun hv => by rw [vv] at hv; cases hv⟩
      · obtain ⟨⟨v6, rfl⟩, x4, hd4⟩ := p
        exact ⟨⟨_, _, _, _, rfl⟩, x3.trans ((Ext.new htp).trans x4), hd4⟩
    · obtain ⟨⟨v3, v4, v5, v6, rfl⟩, x3, hd3⟩ := p
      refine ⟨_, rfl, D, _, rfl, hd3, _, _, rfl, rfl, false, rfl, ?_⟩
      have hl3 := x3 _ _ hl
      refine ⟨_, rfl, L1, rfl, ⟨_, SqL.of hl3⟩, fun E hE => lc_prs walk_list (fun i => prs[i]?.map (·.2)) hE (by rw [List.length_map]; exact big_of (by omega)) (fun H' x => SqL.of (x _ _ hl3)) (fun i v Ha H4 Q' N' hi x4 y hq hn' => ?_) (fun H4 prs4 x4 hE4 hp4 he4 => ?_)⟩
      · obtain ⟨rfl, hv⟩ := y
        obtain ⟨⟨t, r1, x, r2⟩, hpp, rfl⟩ := prV_at hv
        have hm := List.mem_of_getElem? hpp
        obtain ⟨rfl, rfl⟩ := hlo.at hm
        have ht := (x3.trans x4) _ _ (hp1 _ hm)
        have hd4 := x4 _ _ hd3
        refine ⟨t, _, rfl, SqT.of ht, rfl, _, _, rfl, _, _, rfl, _, _, rfl, rfl, rfl, ?_⟩
        exact ⟨_, rfl, _, rfl, D, vN 0, rfl, DGet.k (k := kN 0) hd4, _, rfl, _, rfl, _, rfl, D, vN 0, rfl, DGet.k (k := kN 0) hd4, sz3, fun tn htn => hq tn (0, x, 0) _ (by rw [hpp]; rfl) (Ext.new htn) upd_same⟩
      · have e5 : prs4.map (·.2) = prs.map (·.2) := by
          rw [he4, List.length_map]
          have z := range_flt (fun p : Addr × Ro => some p.2) prs
          have z2 : (fun i : Nat => prs[i]?.map (·.2)) = fun i => prs[i]?.bind fun p => some p.2 := by
            funext i
            cases prs[i]? <;> rfl
          rw [z2, z]
          simp
        have hlen : prs4.length = prs.length := by
          have := congrArg List.length e5
          simpa using this
        have x14 := (x1.trans x3).trans x4
        refine ⟨E, prs4, m, rs2, st2, rfl, .inl hE4, hp4, by omega, by rw [e5]; exact hpl, fun H5 p2 kept x5 n5 wa hk => k _ p2 (x14.trans x5) (x14.fresh n5) ?_⟩
        rw [← kept_srt hk]
        exact wa
end
end BW


set_option Elab.async false
set_option linter.all false
set_option maxRecDepth 100000
set_option maxHeartbeats 4000000
namespace BW
open PySem PySem.Spec PyProof.Rows L2 BwR BwE BwD BwS
section
variable {P : Program} {w : World} {K : PySem.W.Frag} {mg : Str → Option Value} {base : Heap}
/-! folded -/
structure FoldOf (m : Nat) (rs : List Ro) (m2 : Nat) (rs2 : List Ro) (st2 : St) : Prop where
  one : 1 ≤ m
  most : m ≤ 2000
  low : ∀ r ∈ rs, lo r.2.1 = true
  inr : ∀ r ∈ rs, inR m r = true
  few : rs.length ≤ 1000000
  ex : ∃ j n fs, putsM j n (newFS m) rs = some fs ∧ HeadsOk n fs ∧ fs.steps.length ≤ 4000000 ∧ (roadsM n fs).length ≤ 1000000 ∧ (∀ r ∈ roadsM n fs, r.1 = 0 ∧ r.2.2 = 0) ∧ PlainOf (roadsM n fs) m2 rs2 st2
def sp_folded (K : PySem.W.Frag) : Sp := fun vs H Q _ => ∃ (m : Nat) (a : Addr) (prs : List (Addr × Ro)) (m2 : Nat) (rs2 : List Ro) (st2 : St), vs = [vN m, .ref a] ∧ H a = some (.lst (prV prs)) ∧ PrsAt H prs ∧ FoldOf m (prs.map (·.2)) m2 rs2 st2 ∧
  ∀ H' p, Ext H H' → H p = none → WebAt K H' p m2 st2 (srt rs2) → Q (.ref p) H'
theorem sc_folded : FnScope ["many", "roads", "road", "folding", "first", "letter", "last"] ["many", "roads"] (defScope s_folding_folded) := ⟨rfl, rfl, rfl, by decide +kernel, rfl, by decide +kernel, by decide +kernel⟩
theorem ok_folded (T : Txt K mg) : Ok P w K mg base 7 (n_folding_folded) ["many", "roads"] (sp_folded K) := by
  refine ok_of T.f_folding_folded sc_folded (fun _ _ _ _ _ _ us hl => match us, hl with | [_, _], _ => rfl) (fun vs H Q E h => ?_) (fun f cdv A outer s H vs Q E hr h => ?_)
  · obtain ⟨m, a, prs, m2, rs2, st2, rfl, _⟩ := h
    rfl
  · have hu := hu_of hr
    refine ⟨_, pss_cons (ps_if (pw_or (pt_not (pt_val (pe_ok (ok_is_whole T) (hr.mono (by decide)) passL (pa_cons (pv 0) pa_nil)))) (pw_or (pt_not (pt_chain op_le op_le pe_int (pv 0) (pe_gi T.g_folding_MOST_LOOSE)))
        (pw_or1 (pt_not (pt_val (pe_callB call_isi (by rfl) T.b_isinstance (by decide +kernel) (pa_cons (pv 1) (pa_cons (pe_bltn (v := .ty "list") (u := .type "list") (by rfl) T.b_list rfl rfl) pa_nil)))))))).pt pss_never pss_nil)
      (pss_cons (ps_if (pt_not (pt_val (pe_callB (cr_all rfl) (by rfl) T.b_all (by decide +kernel) (pa_cons (pe_lc (own := [("road", 2)]) (g := gName 2) (tt := tYes) (te := tCall sp_is_road [] E0 (tCons (tVar 2) (tCons (tVar 0) tNil))) rfl sc_folded.nd (pi_list (pv 1)) (blkOk_by (N := ["many", "roads", "road", "folding", "first", "letter", "last"]) (sc := defScope s_folding_folded) (by decide +kernel))
          (fun _ _ _ _ _ => pg_name (i := 2) sc_folded.nd rfl (Or.inl rfl)) (fun _ _ _ _ _ => pts_nil) (fun _ _ _ _ _ => pe_ok (ok_is_road T) (hr.mono (by decide)) passL (pa_cons (pv 2) (pa_cons (pv 0) pa_nil)))) pa_nil)))) pss_never pss_nil)
        (pss_cons (ps_set (i := 3) sc_folded.nd rfl (Or.inl rfl) (pe_okI (ok_Fold_init T) T.c_Folding (hr.mono (by decide)) passL (pa_cons (pv 0) pa_nil)))
          (pss_cons (ps_for (passes_of rfl) rfl (pi_list (pv 1)) (pg_tup rfl (pgs_cons (pg_name (i := 4) sc_folded.nd rfl (Or.inl rfl)) (pgs_cons (pg_name (i := 5) sc_folded.nd rfl (Or.inl rfl)) (pgs_cons (pg_name (i := 6) sc_folded.nd rfl (Or.inl rfl)) pgs_nil))))
              (pss_one (ps_expr (pe_okM (pv 3) T.c_Folding (ok_Fold_put T) (hr.mono (by decide)) passL (pa_cons (pv 4) (pa_cons (pv 5) (pa_cons (pv 6) pa_nil)))))))
            (pss_one (ps_ret (pe_ok (ok_plain_web T) hr passL (pa_cons (pe_okM0 (pv 3) T.c_Folding (ok_Fold_roads T) (hr.mono (by decide)) passL) pa_nil))))))), ?_⟩
    obtain ⟨m, a, prs, m2, rs2, st2, rfl, ha, hprs, gd, k⟩ := h
    obtain ⟨j, n, fs, hput, hok, hsl, hrl, hlo, hpl⟩ := gd.ex
    have c1 : decide ((1 : Int) ≤ (m : Int)) = true := by have := gd.one; simp; omega
    have c2 : decide ((m : Int) ≤ 2000) = true := by have := gd.most; simp; omega
    have hz : prs.length ≤ 1000000 := by have := gd.few; rwa [List.length_map] at this
    have hsz : prs.length ≤ sizeLine := big_of (by omega)
    refine ⟨_, rfl, _, _, rfl, .inl ⟨_, rfl, rfl⟩, true, rfl, _, rfl, 1, _, rfl, rfl, true, congrArg V.bl c1, _, _, rfl, rfl, true, congrArg V.bl c2, _, rfl, _, _, _, _, true, rfl, .ty "list", .base (.lst ha), kit_ty (by decide +kernel), true, rfl, ?_⟩
    refine ⟨_, rfl, a, rfl, ⟨_, SqL.of ha⟩, fun D hD => lc_all walk_list (prs.map fun _ => V.bl true) (by simp) hD (by simpa using hsz) (fun H' x => SqL.of (x _ _ ha)) (fun i r v Ha H2 Q' hr2 x2 y hq' => ?_) (fun H2 x2 hd2 => ?_)⟩
    · obtain ⟨rfl, hv⟩ := y
      obtain ⟨pp, hpp, rfl⟩ := prV_at hv
      have hm := List.mem_of_getElem? hpp
      rw [List.getElem?_map, hpp] at hr2
      cases hr2
      have e := gd.inr pp.2 (List.mem_map_of_mem hm)
      refine ⟨rfl, _, rfl, _, rfl, pp.1, pp.2, m, rfl, x2 _ _ (hprs pp hm), gd.low pp.2 (List.mem_map_of_mem hm), ?_⟩
      rw [e]
      exact hq' _ Ext.rfl'
    · refine ⟨D, prs.map fun _ => true, rfl, SqL.of (by rw [hd2, List.map_map]; rfl), _, rfl, ?_⟩
      have e : (prs.map fun _ => true).all id = true := by simp
      rw [e]
      have ha2 := x2 _ _ ha
      refine ⟨_, rfl, fun p dx n1 n2 n3 => ?_⟩
      have w1 := ext_ins (o := .ins (He.ga K "Folding") dx []) (u := .own p) n1 n2 n3
      refine ⟨p, dx, m, H2, rfl, upd_same, by have := gd.most; omega, n1, w1, fun H3 fr3 F3 => ⟨rfl, ?_⟩⟩
      have x3 : Ext H2 H3 := fr3.1 w1
      refine ⟨_, rfl, a, rfl, ⟨_, SqL.of (x3 _ _ ha2)⟩, for_it (walk_list (K := K) (a := a) (xs := prV prs)) (fun i σ H4 => (∃ v2 v4 v5 v6, σ = [some (vN m), some (.ref a), v2, some (.ref p), v4, v5, v6]) ∧ Ext H2 H4 ∧ ∃ fs1, FoldAt K H2 H4 p fs1 ∧ putsM j n fs1 ((prs.map (·.2)).drop i) = some fs)
        ⟨⟨_, _, _, _, rfl⟩, x3, _, F3, hput⟩ (fun i σ H4 _ pp => SqL.of (pp.2.1 _ _ ha2)) (fun i y σ Ha H4 hi pp yy => ?_) (fun σ H4 pp => ?_)⟩
      · obtain ⟨⟨v2, v4, v5, v6, rfl⟩, x4, fs1, F4, hp4⟩ := pp
        obtain ⟨rfl, hv⟩ := yy
        obtain ⟨pp, hpp, rfl⟩ := prV_at hv
        have hm := List.mem_of_getElem? hpp
        have hri : (prs.map (·.2))[i]? = some pp.2 := by rw [List.getElem?_map, hpp]; rfl
        rw [drop_at hri] at hp4
        obtain ⟨hwl, fs2, e2, e3⟩ := putsM_cons hp4
        have F4' := F4
        obtain ⟨dxx, aa, bb, cc, dds, pprs, FF⟩ := F4'
        exact ⟨pp.1, _, rfl, SqT.of ((x2.trans x4) _ _ (hprs pp hm)), rfl, _, _, rfl, _, _, rfl, _, _, rfl, rfl, _, rfl, p, dxx, _, rfl, FF.self, rfl, _, rfl, _, rfl, _, rfl, p, H2, fs1, fs2, pp.2, j, n, rfl, F4, e2, hwl, fun H5 fr5 F5 => ⟨⟨_, _, _, _, rfl⟩, fr5.1 x4, fs2, F5, e3⟩⟩
      · obtain ⟨⟨v2, v4, v5, v6, rfl⟩, x4, fs1, F4, hp4⟩ := pp
        rw [List.drop_eq_nil_of_le (by simp)] at hp4
        cases hp4
        have F4' := F4
        obtain ⟨dxx, aa, bb, cc, dds, pprs, FF⟩ := F4'
        refine ⟨_, rfl, p, dxx, _, rfl, FF.self, rfl, p, H2, fs, n, rfl, F4, hok, hsl, by omega, fun H5 L5 prs5 x5 _ hl5 hp5 e5 => ?_⟩
        have hl5' : prs5.length ≤ 1000000 := by
          have := congrArg List.length e5
          rw [List.length_map] at this
          omega
        have x15 := (x2.trans x4).trans x5
        exact ⟨L5, prs5, m2, rs2, st2, rfl, hl5, hp5, (fun q hq => hlo q.2 (by rw [← e5]; exact List.mem_map_of_mem hq)), hl5', by rw [e5]; exact hpl, fun H6 p6 x6 n6 wa => k _ p6 (x15.trans x6) (x15.fresh n6) wa⟩
/-! need_given -/
def GoodU (us : List (List L)) : Prop := us.length ≤ 8 ∧ ∀ u ∈ us, u.length ≤ 60 ∧ red u = true
abbrev usV (us : List (List L)) : List V := us.map fun u => V.str (wS u)
def sp_need_given (K : PySem.W.Frag) : Sp := fun vs H Q _ => ∃ (a : Addr) (us : List (List L)), vs = [.ref a] ∧ H a = some (.lst (usV us)) ∧ GoodU us ∧ ∀ H', Ext H H' → Q .non H'
theorem sc_need_given : FnScope ["words", "word"] ["words"] (defScope s_folding_need_given) := ⟨rfl, rfl, rfl, by decide +kernel, rfl, by decide +kernel, by decide +kernel⟩
theorem ok_need_given (T : Txt K mg) : Ok P w K mg base 3 (n_folding_need_given) ["words"] (sp_need_given K) := by
  refine ok_of T.f_folding_need_given sc_need_given (fun _ _ _ _ _ _ us hl => match us, hl with | [_], _ => rfl) (fun vs H Q E h => ?_) (fun f cdv A outer s H vs Q E hr h => ?_)
  · obtain ⟨a, us, rfl, _⟩ := h
    rfl
  · refine ⟨_, pss_one (ps_if (pw_or (pt_not (pt_val (pe_callB call_isi (by rfl) T.b_isinstance (by decide +kernel) (pa_cons (pv 0) (pa_cons (pe_bltn (v := .ty "list") (u := .type "list") (by rfl) T.b_list rfl rfl) pa_nil)))))
      (pw_or (pt_cmpR op_gt (pe_callB call_len_seq (by rfl) T.b_len PySem.boot_len (pa_cons (pv 0) pa_nil)) (pe_gi T.g_folding_MOST_WORDS) (nomark _))
        (pw_or1 (pt_not (pt_val (pe_callB (cr_all rfl) (by rfl) T.b_all (by decide +kernel) (pa_cons (pe_lc (own := [("word", 1)]) (g := gName 1) (tt := tYes) (te := tCall (sp_is_word K) [] E0 (tCons (tVar 1) tNil)) rfl sc_need_given.nd (pi_list (pv 0)) (blkOk_by (N := ["words", "word"]) (sc := defScope s_folding_need_given) (by decide +kernel))
          (fun _ _ _ _ _ => pg_name (i := 1) sc_need_given.nd rfl (Or.inl rfl)) (fun _ _ _ _ _ => pts_nil) (fun _ _ _ _ _ => pe_ok (ok_is_word T) hr passL (pa_cons (pv 1) pa_nil))) pa_nil))))))).pt pss_never pss_nil), ?_⟩
    obtain ⟨a, us, rfl, ha, ⟨g1, g2⟩, k⟩ := h
    have c1 : decide ((8 : Int) < ((usV us).length : Int)) = false := by rw [List.length_map]; simp; omega
    refine ⟨_, rfl, _, _, _, _, true, rfl, .ty "list", .base (.lst ha), kit_ty (by decide +kernel), true, rfl, _, rfl, a, _, rfl, .inl (SqL.of ha), _, _, rfl, rfl, false, congrArg V.bl c1, ?_⟩
    refine ⟨_, rfl, a, rfl, ⟨_, SqL.of ha⟩, fun D hD => lc_all walk_list (us.map fun _ => V.bl true) (by simp) hD (by rw [List.length_map]; exact big_of (by omega)) (fun H' x => SqL.of (x _ _ ha)) (fun i r v Ha H2 Q' hr2 x2 y hq' => ?_) (fun H2 x2 hd2 => ?_)⟩
    · obtain ⟨rfl, hv⟩ := y
      rw [List.getElem?_map] at hv hr2
      obtain ⟨u, hu, rfl⟩ := Option.map_eq_some_iff.mp hv
      rw [hu] at hr2
      cases hr2
      obtain ⟨h1, h2⟩ := g2 u (List.mem_of_getElem? hu)
      exact ⟨rfl, _, rfl, _, true, rfl, .inl ⟨u, rfl, by omega, by rw [h2, decide_eq_true h1]; rfl⟩, fun H' x => hq' _ x⟩
    · refine ⟨D, us.map fun _ => true, rfl, SqL.of (by rw [hd2, List.map_map]; rfl), _, rfl, ?_⟩
      have e : (us.map fun _ => true).all id = true := by simp
      rw [e]
      exact k _ x2
/-! circles -/
/-- (how many, roads, the place) behind a letter at i of n -/
def cirS (n : Nat) (s : Nat × List Ro × Nat) (i : Nat) (x : L) : Nat × List Ro × Nat :=
  let there := if i + 1 < n then s.1 else 0
  (s.1 + (if there = 0 then 0 else 1), s.2.1 ++ [if lo x = true then (s.2.2, x, there) else (there, bk x, s.2.2)], there)
def cirW (n : Nat) : Nat → List L → Nat × List Ro × Nat → Nat × List Ro × Nat
  | _, [], s => s
  | i, x :: u, s => cirW n (i + 1) u (cirS n s i x)
def cirM : List (List L) → Nat × List Ro → Nat × List Ro
  | [], s => s
  | u :: us, s => cirM us ((cirW u.length 0 u (s.1, s.2, 0)).1, (cirW u.length 0 u (s.1, s.2, 0)).2.1)
theorem cirW_len (n : Nat) : ∀ (u : List L) (i : Nat) (s : Nat × List Ro × Nat), (cirW n i u s).2.1.length = s.2.1.length + u.length
  | [], i, s => rfl
  | x :: u, i, s => by
    show (cirW n (i + 1) u (cirS n s i x)).2.1.length = _
    rw [cirW_len n u]
    unfold cirS
    simp
    omega
theorem cirM_len : ∀ (us : List (List L)) (s : Nat × List Ro), (cirM us s).2.length = s.2.length + (us.map List.length).sum
  | [], s => rfl
  | u :: us, s => by
    show (cirM us _).2.length = _
    rw [cirM_len us]
    show (cirW u.length 0 u (s.1, s.2, 0)).2.1.length + _ = _
    rw [cirW_len]
    simp
    omega
def sp_circles : Sp := fun vs H Q _ => ∃ (a : Addr) (us : List (List L)), vs = [.ref a] ∧ H a = some (.lst (usV us)) ∧ GoodU us ∧ ∀ H' T D prs, Ext H H' → H' T = some (.tup [vN (cirM us (1, [])).1, .ref D]) → H' D = some (.lst (prV prs)) → PrsAt H' prs → prs.map (·.2) = (cirM us (1, [])).2 → Q (.ref T) H'
theorem sc_circles : FnScope ["words", "many", "roads", "word", "at", "place", "letter", "there"] ["words"] (defScope s_folding_circles) := ⟨rfl, rfl, rfl, by decide +kernel, rfl, by decide +kernel, by decide +kernel⟩
theorem ok_circles (T : Txt K mg) : Ok P w K mg base 2 (n_folding_circles) ["words"] sp_circles := by
  refine ok_of T.f_folding_circles sc_circles (fun _ _ _ _ _ _ us hl => match us, hl with | [_], _ => rfl) (fun vs H Q E h => ?_) (fun f cdv A outer s H vs Q E hr h => ?_)
  · obtain ⟨a, us, rfl, _⟩ := h
    rfl
  · have hu := hu_of hr
    refine ⟨_, pss_cons (ps_set (i := 1) sc_circles.nd rfl (Or.inl rfl) pe_int) (pss_cons (ps_set (i := 2) sc_circles.nd rfl (Or.inl rfl) (pe_lst pa_nil)) (pss_cons (ps_for (passes_of rfl) rfl (pi_list (pv 0)) (pg_name (i := 3) sc_circles.nd rfl (Or.inl rfl))
      (pss_cons (ps_set (i := 4) sc_circles.nd rfl (Or.inl rfl) pe_int) (pss_one (ps_for (passes_of rfl) rfl (pi_enumS (by rfl) T.b_enumerate (pa_cons (pv 3) pa_nil)) (pg_tup rfl (pgs_cons (pg_name (i := 5) sc_circles.nd rfl (Or.inl rfl)) (pgs_cons (pg_name (i := 6) sc_circles.nd rfl (Or.inl rfl)) pgs_nil)))
        (pss_cons (ps_set (i := 7) sc_circles.nd rfl (Or.inl rfl) (pe_ifExp (pt_cmpR op_lt (pv 5) (pe_op op_sub (pe_callB call_len_str (by rfl) T.b_len PySem.boot_len (pa_cons (pv 3) pa_nil)) pe_int) (nomark _)) (pv 1) pe_int))
          (pss_cons (ps_aug (i := 1) sc_circles.nd rfl (Or.inl rfl) (pe_callTy call_int1 (by rfl) T.b_int (by decide +kernel) (pa_cons (pe_cmpR op_ne (pv 7) pe_int (nomark _)) pa_nil)) ip_add)
            (pss_cons (ps_expr (pe_bm PySem.F.plainAttrs_list PySem.F.slot_list_append PySem.F.type_list_append mt_append (pv 2) (pa_cons (pe_ifExp (pt_cmpR op_in_sign (pv 6) (pe_gs T.g_words_LETTERS) rfl) (pe_tup (pa_cons (pv 4) (pa_cons (pv 6) (pa_cons (pv 7) pa_nil))))
                (pe_tup (pa_cons (pv 7) (pa_cons (pe_ok (ok_back_of T) hr passL (pa_cons (pv 6) pa_nil)) (pa_cons (pv 4) pa_nil))))) pa_nil)))
              (pss_one (ps_set (i := 4) sc_circles.nd rfl (Or.inl rfl) (pv 7))))))))))
      (pss_one (ps_ret (pe_tup (pa_cons (pv 1) (pa_cons (pv 2) pa_nil))))))), ?_⟩
    obtain ⟨a, us, rfl, ha, ⟨g1, g2⟩, k⟩ := h
    have hsum : ∀ l : List (List L), (∀ u ∈ l, u ∈ us) → (l.map List.length).sum ≤ 60 * l.length := fun l => by
      induction l with
      | nil => intro _; simp
      | cons u l ih =>
        intro h
        have h1 := ih fun z hz => h z (List.mem_cons_of_mem _ hz)
        have h2 := (g2 u (h u List.mem_cons_self)).1
        simp only [List.map_cons, List.sum_cons, List.length_cons]
        omega
    refine ⟨Nat.zero_le _, fun D hD => ?_⟩
    refine ⟨_, rfl, a, rfl, ⟨usV us, SqL.of ((Ext.new hD) _ _ ha)⟩, for_it (walk_list (K := K) (a := a) (xs := usV us)) (fun i σ H1 => ∃ m v3 v4 v5 v6 v7 q, σ = [some (.ref a), some (vN m), some (.ref D), v3, v4, v5, v6, v7] ∧ Ext H H1 ∧ H1 D = some (.lst (prV q)) ∧ PrsAt H1 q ∧
      cirM (us.drop i) (m, q.map (·.2)) = cirM us (1, [])) ⟨1, _, _, _, _, _, [], rfl, Ext.new hD, upd_same, (fun _ z => nomatch z), rfl⟩ (fun i σ H1 _ pp => ?_) (fun i y σ Ha H1 hi pp yy => ?_) (fun σ H1 pp => ?_)⟩
    · obtain ⟨m, v3, v4, v5, v6, v7, q, rfl, x1, _⟩ := pp
      exact SqL.of (x1 _ _ ha)
    · obtain ⟨m, v3, v4, v5, v6, v7, q, rfl, x1, hd1, hq1, he1⟩ := pp
      obtain ⟨rfl, hv⟩ := yy
      rw [List.getElem?_map] at hv
      obtain ⟨u, hui, rfl⟩ := Option.map_eq_some_iff.mp hv
      have hu2 := g2 u (List.mem_of_getElem? hui)
      rw [drop_at hui] at he1
      have he1 : cirM (us.drop (i + 1)) ((cirW u.length 0 u (m, q.map (·.2), 0)).1, (cirW u.length 0 u (m, q.map (·.2), 0)).2.1) = cirM us (1, []) := he1
      have hbound : (cirW u.length 0 u (m, q.map (·.2), 0)).2.1.length ≤ 480 := by
        have h1 := congrArg (fun z : Nat × List Ro => z.2.length) he1
        have h1 : (cirM (us.drop (i + 1)) ((cirW u.length 0 u (m, q.map (·.2), 0)).1, (cirW u.length 0 u (m, q.map (·.2), 0)).2.1)).2.length = (cirM us (1, [])).2.length := h1
        rw [cirM_len, cirM_len] at h1
        have h2 := hsum us fun z hz => hz
        simp only [List.length_nil] at h1
        omega
      refine ⟨_, rfl, wS u, rfl, for_it (walk_enumS (z := wS u)) (fun j σ H2 => ∃ m2 at2 v5 v6 v7 q2, σ = [some (.ref a), some (vN m2), some (.ref D), some (.str (wS u)), some (vN at2), v5, v6, v7] ∧ Ext H H2 ∧ H2 D = some (.lst (prV q2)) ∧ PrsAt H2 q2 ∧
        cirW u.length j (u.drop j) (m2, q2.map (·.2), at2) = cirW u.length 0 u (m, q.map (·.2), 0)) ⟨m, 0, _, _, _, q, rfl, x1, hd1, hq1, rfl⟩ (fun _ _ _ _ _ => True.intro) (fun j y σ Hb H2 hj pp yy => ?_) (fun σ H2 pp => ?_)⟩
      · obtain ⟨m2, at2, v5, v6, v7, q2, rfl, x2, hd2, hq2, he2⟩ := pp
        obtain ⟨Tp, aa, bb, rfl, hT, rfl, hA, hB⟩ := yy
        cases hA
        obtain ⟨c, hc, rfl⟩ := Option.map_eq_some_iff.mp hB
        obtain ⟨x, hx, rfl⟩ := w_at_inv hc
        rw [drop_at hx] at he2
        have he2 : cirW u.length (j + 1) (u.drop (j + 1)) (cirS u.length (m2, q2.map (·.2), at2) j x) = cirW u.length 0 u (m, q.map (·.2), 0) := he2
        have w1 : Ext Hb (upd Hb Tp (.tup [vN j, .str (lS x)])) := Ext.new hT
        refine ⟨Tp, _, rfl, SqT.of upd_same, rfl, _, _, rfl, _, _, rfl, rfl, ?_⟩
        have x3 := x2.trans w1
        have hd3 := w1 _ _ hd2
        have hq3 := hq2.ext w1
        revert x3 hd3 hq3
        generalize upd Hb Tp (.tup [vN j, .str (lS x)]) = H3
        intro x3 hd3 hq3
        have hql : q2.length ≤ 480 := by
          have h1 := congrArg (fun z : Nat × List Ro × Nat => z.2.1.length) he2
          have h1 : (cirW u.length (j + 1) (u.drop (j + 1)) (cirS u.length (m2, q2.map (·.2), at2) j x)).2.1.length = (cirW u.length 0 u (m, q.map (·.2), 0)).2.1.length := h1
          rw [cirW_len] at h1
          have h2 : (cirS u.length (m2, q2.map (·.2), at2) j x).2.1.length = q2.length + 1 := by unfold cirS; simp
          omega
        -- the place that comes
        have key : ∀ (there : Nat) (Dn : Ends), there = (if j + 1 < u.length then m2 else 0) →
            (∀ H4 q3, Ext H H4 → H4 D = some (.lst (prV q3)) → PrsAt H4 q3 → q3.map (·.2) = (cirS u.length (m2, q2.map (·.2), at2) j x).2.1 → Dn.nx [some (.ref a), some (vN (cirS u.length (m2, q2.map (·.2), at2) j x).1), some (.ref D), some (.str (wS u)), some (vN there), some (vN j), some (.str (lS x)), some (vN there)] H4) →
            tSeq (tAug 1 (tCB (fun xs H Q => (∃ i, xs = [.int i] ∧ Q (.int i) H) ∨ ∃ k, xs = [.bl k] ∧ Q (.int (if k then 1 else 0)) H) (tCons (tOp rNe (tVar 7) (tC (.int 0))) tNil)) (ipI fun i j => i + j))
            (tSeq (tDrop (tBM K "list" rAppend (tVar 2) (tCons (tIf (tTest (tOp (fun x y H Q => ∃ (c : Nat) (z : Str), x = .str ⟨#[c]⟩ ∧ y = .str z ∧ Q (.bl (decide (c ∈ z.cps.toList))) H) (tVar 6) (tC (.str "abcdef")))) (tTup (tCons (tVar 4) (tCons (tVar 6) (tCons (tVar 7) tNil)))) (tTup (tCons (tVar 7) (tCons (tCall sp_back_of [] E0 (tCons (tVar 6) tNil)) (tCons (tVar 4) tNil))))) tNil)))
              (tAsg (tVar 7) (gName 4))) Dn
            [some (.ref a), some (vN m2), some (.ref D), some (.str (wS u)), some (vN at2), some (vN j), some (.str (lS x)), some (vN there)] H3 := fun there Dn eth kk => by
          have ei : ((m2 : Int) + (if (!decide (vN there = V.int 0)) = true then 1 else 0)) = ((cirS u.length (m2, q2.map (·.2), at2) j x).1 : Int) := by
            unfold cirS
            dsimp only
            rw [← eth, eq_0]
            by_cases h0 : there = 0
            · rw [decide_eq_true h0, if_pos h0]
              simp
            · rw [decide_eq_false h0, if_neg h0]
              simp
          refine ⟨_, rfl, _, rfl, rfl, .inr ⟨_, rfl, _, _, rfl, rfl, ?_⟩⟩
          dsimp only
          rw [ei]
          refine ⟨_, rfl, .inl ⟨rfl, _, SqL.of hd3⟩, _, rfl, _, loS, rfl, rfl, _, rfl, ?_⟩
          rw [lo_in]
          have eq3 : (cirS u.length (m2, q2.map (·.2), at2) j x).2.1 = q2.map (·.2) ++ [if lo x = true then (at2, x, there) else (there, bk x, at2)] := by
            unfold cirS
            dsimp only
            rw [← eth]
          have hl2 : (prV q2).length < sizeLine := by rw [List.length_map]; exact big_lt (by omega)
          have fin : ∀ (t3 : Addr) (r : Ro), H3 t3 = none → r = (if lo x = true then (at2, x, there) else (there, bk x, at2)) → ∃ l xs y, V.ref D = .ref l ∧ [V.ref t3] = [y] ∧ upd H3 t3 (.tup (rV r)) l = some (.lst xs) ∧ xs.length < sizeLine ∧
              Dn.nx [some (.ref a), some (vN (cirS u.length (m2, q2.map (·.2), at2) j x).1), some (.ref D), some (.str (wS u)), some (vN there), some (vN j), some (.str (lS x)), some (vN there)] (upd (upd H3 t3 (.tup (rV r))) l (.lst (xs ++ [y]))) := fun t3 r ht3 hr => by
            have n3 : t3 ≠ D := fun z => by rw [z, hd3] at ht3; cases ht3
            refine ⟨D, _, _, rfl, rfl, (Ext.new ht3) _ _ hd3, hl2, kk _ (q2 ++ [(t3, r)]) (Ext.put hD (x3.trans (Ext.new ht3))) ?_ (fun z hz => ?_) ?_⟩
            · rw [upd_same]
              unfold prV
              rw [List.map_append]
              rfl
            · rcases List.mem_append.mp hz with hz | hz
              · have hb := (Ext.new (o := .tup (rV r)) ht3) _ _ (hq3 z hz)
                rw [upd_ne (ne_at hb ((Ext.new (o := .tup (rV r)) ht3) _ _ hd3) (fun z => nomatch z))]
                exact hb
              · rw [List.mem_singleton] at hz
                subst hz
                show upd (upd _ t3 _) D _ t3 = _
                rw [upd_ne n3]
                exact upd_same
            · rw [eq3, List.map_append, hr]
              rfl
          cases hlx : lo x with
          | true =>
            refine ⟨_, rfl, _, rfl, _, rfl, sz3, fun t3 ht3 => ?_⟩
            obtain ⟨l, xs, y, h1, h2, h3, h4, h5⟩ := fin t3 (at2, x, there) ht3 (by rw [hlx]; rfl)
            exact ⟨l, xs, y, h1, h2, h3, h4, _, rfl, h5⟩
          | false =>
            refine ⟨_, rfl, _, rfl, x, rfl, _, rfl, sz3, fun t3 ht3 => ?_⟩
            obtain ⟨l, xs, y, h1, h2, h3, h4, h5⟩ := fin t3 (there, bk x, at2) ht3 (by rw [hlx]; rfl)
            exact ⟨l, xs, y, h1, h2, h3, h4, _, rfl, h5⟩
        have hnx : ∀ there : Nat, there = (if j + 1 < u.length then m2 else 0) → (cirS u.length (m2, q2.map (·.2), at2) j x).2.2 = there := fun there e => by
          unfold cirS
          dsimp only
          rw [← e]
        refine ⟨_, rfl, _, rfl, wS u, rfl, by rw [wS_len]; exact big_of (by omega), _, _, rfl, rfl, _, _, rfl, rfl, _, rfl, ?_⟩
        have ed : decide ((j : Int) < ((wS u).length : Int) - 1) = decide (j + 1 < u.length) := by
          rw [wS_len, Bool.eq_iff_iff, decide_eq_true_eq, decide_eq_true_eq]
          omega
        show if decide ((j : Int) < ((wS u).length : Int) - 1) = true then _ else _
        rw [ed]
        by_cases hj1 : j + 1 < u.length
        · rw [if_pos (decide_eq_true hj1)]
          refine ⟨_, rfl, key m2 _ (by rw [if_pos hj1]) fun H4 q3 x4 hd4 hq4 e4 => ⟨_, _, _, _, _, q3, rfl, x4, hd4, hq4, ?_⟩⟩
          exact (congrArg (cirW u.length (j + 1) (u.drop (j + 1))) (Prod.ext rfl (Prod.ext e4 (hnx m2 (by rw [if_pos hj1])).symm) : ((cirS u.length (m2, q2.map (·.2), at2) j x).1, q3.map (·.2), m2) = cirS u.length (m2, q2.map (·.2), at2) j x)).trans he2
        · rw [if_neg (by rw [decide_eq_false hj1]; exact Bool.false_ne_true)]
          refine key 0 _ (by rw [if_neg hj1]) fun H4 q3 x4 hd4 hq4 e4 => ⟨_, _, _, _, _, q3, rfl, x4, hd4, hq4, ?_⟩
          exact (congrArg (cirW u.length (j + 1) (u.drop (j + 1))) (Prod.ext rfl (Prod.ext e4 (hnx 0 (by rw [if_neg hj1])).symm) : ((cirS u.length (m2, q2.map (·.2), at2) j x).1, q3.map (·.2), 0) = cirS u.length (m2, q2.map (·.2), at2) j x)).trans he2
      · obtain ⟨m2, at2, v5, v6, v7, q2, rfl, x2, hd2, hq2, he2⟩ := pp
        rw [List.drop_eq_nil_of_le (by simp)] at he2
        have he2 : (m2, q2.map (·.2), at2) = cirW u.length 0 u (m, q.map (·.2), 0) := he2
        refine ⟨m2, _, _, _, _, _, q2, rfl, x2, hd2, hq2, ?_⟩
        rw [← he2] at he1
        exact he1
    · obtain ⟨m, v3, v4, v5, v6, v7, q, rfl, x1, hd1, hq1, he1⟩ := pp
      rw [List.drop_eq_nil_of_le (by simp)] at he1
      have he1 : (m, q.map (·.2)) = cirM us (1, []) := he1
      refine ⟨_, rfl, _, rfl, sz2, fun tn htn => ?_⟩
      have e1 : (cirM us (1, [])).1 = m := by rw [← he1]
      refine k _ tn D q (x1.trans (Ext.new htn)) ?_ ((Ext.new htn) _ _ hd1) (hq1.ext (Ext.new htn)) ?_
      · rw [e1]
        exact upd_same
      · rw [← he1]
/-! web_of -/
def sp_web_of (K : PySem.W.Frag) : Sp := fun vs H Q _ => ∃ (a : Addr) (us : List (List L)) (m2 : Nat) (rs2 : List Ro) (st2 : St), vs = [.ref a] ∧ H a = some (.lst (usV us)) ∧ GoodU us ∧ FoldOf (cirM us (1, [])).1 (cirM us (1, [])).2 m2 rs2 st2 ∧
  ∀ H' p, Ext H H' → H p = none → WebAt K H' p m2 st2 (srt rs2) → Q (.ref p) H'
theorem sc_web_of : FnScope ["words", "many", "roads"] ["words"] (defScope s_folding_web_of) := ⟨rfl, rfl, rfl, by decide +kernel, rfl, by decide +kernel, by decide +kernel⟩
theorem ok_web_of (T : Txt K mg) : Ok P w K mg base 8 (n_folding_web_of) ["words"] (sp_web_of K) := by
  refine ok_of T.f_folding_web_of sc_web_of (fun _ _ _ _ _ _ us hl => match us, hl with | [_], _ => rfl) (fun vs H Q E h => ?_) (fun f cdv A outer s H vs Q E hr h => ?_)
  · obtain ⟨a, us, m2, rs2, st2, rfl, _⟩ := h
    rfl
  · refine ⟨_, pss_cons (ps_expr (pe_ok (ok_need_given T) (hr.mono (by decide)) passL (pa_cons (pv 0) pa_nil))) (pss_cons (ps_asg (pe_ok (ok_circles T) (hr.mono (by decide)) passL (pa_cons (pv 0) pa_nil)) (pg_tup rfl (pgs_cons (pg_name (i := 1) sc_web_of.nd rfl (Or.inl rfl)) (pgs_cons (pg_name (i := 2) sc_web_of.nd rfl (Or.inl rfl)) pgs_nil))))
      (pss_one (ps_ret (pe_ok (ok_folded T) hr passL (pa_cons (pv 1) (pa_cons (pv 2) pa_nil)))))), ?_⟩
    obtain ⟨a, us, m2, rs2, st2, rfl, ha, hg, hf, k⟩ := h
    refine ⟨_, rfl, a, us, rfl, ha, hg, fun H1 x1 => ⟨_, rfl, a, us, rfl, x1 _ _ ha, hg, fun H2 Tp D prs x2 ht hd hp he => ⟨Tp, _, rfl, SqT.of ht, rfl, _, _, rfl, _, _, rfl, rfl, ?_⟩⟩⟩
    have x12 := x1.trans x2
    exact ⟨_, rfl, _, rfl, _, D, prs, m2, rs2, st2, rfl, hd, hp, by rw [he]; exact hf, fun H3 p x3 n3 wa => k _ p (x12.trans x3) (x12.fresh n3) wa⟩
/-! Club -/
def clubF (t w : Addr) : List (Str × V) := [("first_words", .ref t), ("folded_web", .ref w)]
def ClubAt (K : PySem.W.Frag) (H : Hp) (c : Addr) (us : List (List L)) (m2 : Nat) (rs2 : List Ro) (st2 : St) : Prop := ∃ dx t w, H c = some (.ins (He.ga K "Club") dx (clubF t w)) ∧ H t = some (.tup (usV us)) ∧ WebAt K H w m2 st2 (srt rs2)
theorem ClubAt.ext {H H' : Hp} {c : Addr} {us : List (List L)} {m2 : Nat} {rs2 : List Ro} {st2 : St} (h : ClubAt K H c us m2 rs2 st2) (x : Ext H H') : ClubAt K H' c us m2 rs2 st2 := by
  obtain ⟨dx, t, w, h1, h2, h3⟩ := h
  exact ⟨dx, t, w, x _ _ h1, x _ _ h2, h3.ext x⟩
def sp_Club_init (K : PySem.W.Frag) : Sp := fun vs H Q _ => ∃ (c dx a : Addr) (us : List (List L)) (m2 : Nat) (rs2 : List Ro) (st2 : St), vs = [.ref c, .ref a] ∧ H c = some (.ins (He.ga K "Club") dx []) ∧ H a = some (.lst (usV us)) ∧ GoodU us ∧ FoldOf (cirM us (1, [])).1 (cirM us (1, [])).2 m2 rs2 st2 ∧
  ∀ H', Ext1 c H H' → ClubAt K H' c us m2 rs2 st2 → Q .non H'
theorem sc_Club_init : FnScope ["self", "words"] ["self", "words"] (defScope s_clubrows_Club___init__) := ⟨rfl, rfl, rfl, by decide +kernel, rfl, by decide +kernel, by decide +kernel⟩
theorem ok_Club_init (T : Txt K mg) : OkI P w K mg base 9 "Club" ["self", "words"] (sp_Club_init K) := by
  refine okI_of T.f_clubrows_Club___init__ sc_Club_init (fun _ _ _ _ _ _ us hl => match us, hl with | [_, _], _ => rfl) (fun vs H Q E h => ?_) (fun f cdv A outer s H vs Q E hr h => ?_)
  · obtain ⟨c, dx, a, us, m2, rs2, st2, rfl, _⟩ := h
    rfl
  · refine ⟨_, pss_cons (ps_expr (pe_ok (ok_need_given T) (hr.mono (by decide)) passL (pa_cons (pv 1) pa_nil))) (pss_cons (ps_fld (pv 0) (pe_callTy call_tuple_of (by rfl) T.b_tuple (by decide +kernel) (pa_cons (pv 1) pa_nil)) rfl)
      (pss_one (ps_fld (pv 0) (pe_ok (ok_web_of T) hr passL (pa_cons (pv 1) pa_nil)) rfl))), ?_⟩
    obtain ⟨c, dx, a, us, m2, rs2, st2, rfl, hc, ha, hg, hf, k⟩ := h
    refine ⟨_, rfl, a, us, rfl, ha, hg, fun H1 x1 => ⟨_, rfl, a, _, rfl, .inl ⟨SqL.of (x1 _ _ ha), fun t ht => ?_⟩⟩⟩
    have x2 := x1.trans (Ext.new (o := .tup (usV us)) ht)
    refine ⟨_, rfl, c, _, dx, _, rfl, x2 _ _ hc, T.c_Club.2, T.n_Club_first_words, by decide, ?_⟩
    have y3 : Ext1 c H (upd (upd H1 t (.tup (usV us))) c (.ins (He.ga K "Club") dx (putF "first_words" (.ref t) []))) := x2.e1.put _
    have nt : t ≠ c := fun z => by rw [z, x1 _ _ hc] at ht; cases ht
    have g1 : upd (upd H1 t (.tup (usV us))) c (.ins (He.ga K "Club") dx (putF "first_words" (.ref t) [])) c = some (.ins (He.ga K "Club") dx [("first_words", .ref t)]) := upd_same
    have g2 : upd (upd H1 t (.tup (usV us))) c (.ins (He.ga K "Club") dx (putF "first_words" (.ref t) [])) t = some (.tup (usV us)) := by rw [upd_ne nt, upd_same]
    revert y3 g1 g2
    generalize upd (upd H1 t (.tup (usV us))) c (.ins (He.ga K "Club") dx (putF "first_words" (.ref t) [])) = H3
    intro y3 g1 g2
    have na : a ≠ c := ne_at ha hc (fun z => nomatch z)
    refine ⟨_, rfl, a, us, m2, rs2, st2, rfl, y3 _ _ na ha, hg, hf, fun H4 pw x4 n4 wa => ?_⟩
    have hc4 := x4 _ _ g1
    refine ⟨_, rfl, c, _, dx, _, rfl, hc4, T.c_Club.2, T.n_Club_folded_web, (by show 1 < 1000; decide), ?_⟩
    obtain ⟨dxw, dw, tw, prsw, w1, w2, w3, w4, w5⟩ := wa
    have npw : pw ≠ c := fun z => by rw [z, g1] at n4; cases n4
    refine k _ ((y3.trans x4.e1).put _) ⟨dx, t, pw, upd_same, ?_, dxw, dw, tw, prsw, ?_, ?_, ?_, fun q hq => ?_, w5⟩
    · rw [upd_ne nt]
      exact x4 _ _ g2
    · rw [upd_ne npw]
      exact w1
    · rw [upd_ne (ne_at w2 hc4 (fun z => nomatch z))]
      exact w2
    · rw [upd_ne (ne_at w3 hc4 (fun z => nomatch z))]
      exact w3
    · rw [upd_ne (ne_at (w4 q hq) hc4 (fun z => nomatch z))]
      exact w4 q hq
def sp_Club_web (K : PySem.W.Frag) : Sp := fun vs H Q _ => ∃ (c : Addr) (us : List (List L)) (m2 : Nat) (rs2 : List Ro) (st2 : St), vs = [.ref c] ∧ ClubAt K H c us m2 rs2 st2 ∧ ∀ p, WebAt K H p m2 st2 (srt rs2) → Q (.ref p) H
theorem sc_Club_web : FnScope ["self"] ["self"] (defScope s_clubrows_Club_web) := ⟨rfl, rfl, rfl, by decide +kernel, rfl, by decide +kernel, by decide +kernel⟩
theorem ok_Club_web (T : Txt K mg) : OkM P w K mg base 1 "Club" "web" ["self"] (sp_Club_web K) := by
  refine okM_of T.f_clubrows_Club_web sc_Club_web (fun _ _ _ _ _ _ us hl => match us, hl with | [_], _ => rfl) (fun vs H Q E h => ?_) (fun f cdv A outer s H vs Q E hr h => ?_)
  · obtain ⟨c, us, m2, rs2, st2, rfl, _⟩ := h
    rfl
  · refine ⟨_, pss_one (ps_ret (pe_fld (pv 0) rfl)), ?_⟩
    obtain ⟨c, us, m2, rs2, st2, rfl, ⟨dx, t, w, h1, h2, h3⟩, k⟩ := h
    exact ⟨_, rfl, c, _, dx, _, _, rfl, h1, T.c_Club.2, T.n_Club_folded_web, rfl, k w h3⟩
end
end BW


set_option Elab.async false
set_option linter.all false
set_option maxRecDepth 100000
set_option maxHeartbeats 4000000
namespace BW
open PySem PySem.Spec PyProof.Rows L2 BwR BwE BwD BwS
section
variable {P : Program} {w : World} {K : PySem.W.Frag} {mg : Str → Option Value} {base : Heap}
/-! has_letters -/
def hasL (m : Nat) (x : L) : Bool := decide (x.val / 2 < m)
theorem cut_lo (m : Nat) : cutS loS none (some (m : Int)) = ⟨(loS.cps.toList.take (min m 6)).toArray⟩ := by
  unfold cutS
  have e : HT.sIx loS.length loS.length (some (m : Int)) = min m 6 := HT.sIx_nat loS.length loS.length m
  rw [e, HT.sIx_none]
  rfl
theorem in_cut (m : Nat) (x : L) : decide (cp x ∈ (cutS loS none (some (m : Int))).cps.toList) = (lo x && hasL m x) := by
  rw [cut_lo]
  have h : ∀ (k : Fin 7) (x : L), decide (cp x ∈ loS.cps.toList.take k.val) = (lo x && decide (x.val / 2 < k.val)) := by decide +kernel
  have h2 := h ⟨min m 6, by omega⟩ x
  have e : decide (x.val / 2 < min m 6) = hasL m x := by
    unfold hasL
    rw [Bool.eq_iff_iff, decide_eq_true_eq, decide_eq_true_eq]
    have := x.isLt
    omega
  rw [← e]
  exact h2
theorem has_or (m : Nat) (x : L) : ((lo x && hasL m x) || (lo (bk x) && hasL m (bk x))) = hasL m x := by
  have h1 : hasL m (bk x) = hasL m x := by
    have : ∀ x : L, (bk x).val / 2 = x.val / 2 := by decide
    unfold hasL
    rw [this x]
  have h2 : lo (bk x) = !lo x := by
    have : ∀ x : L, lo (bk x) = !lo x := by decide
    exact this x
  rw [h1, h2]
  cases lo x <;> cases hasL m x <;> rfl
def sp_has_letters : Sp := fun vs H Q _ => ∃ (u : List L) (m : Nat), vs = [.str (wS u), vN m] ∧ u.length ≤ 16000000 ∧ ∀ H', Ext H H' → Q (.bl (u.all (hasL m))) H'
theorem sc_has_letters : FnScope ["word", "many", "letter"] ["word", "many"] (defScope s_sendings_has_letters) := ⟨rfl, rfl, rfl, by decide +kernel, rfl, by decide +kernel, by decide +kernel⟩
theorem ok_has_letters (T : Txt K mg) : Ok P w K mg base 2 (n_sendings_has_letters) ["word", "many"] sp_has_letters := by
  refine ok_of T.f_sendings_has_letters sc_has_letters (fun _ _ _ _ _ _ us hl => match us, hl with | [_, _], _ => rfl) (fun vs H Q E h => ?_) (fun f cdv A outer s H vs Q E hr h => ?_)
  · obtain ⟨u, m, rfl, _⟩ := h
    rfl
  · refine ⟨_, pss_one (ps_ret (pe_callB (cr_all rfl) (by rfl) T.b_all (by decide +kernel) (pa_cons (pe_lc (own := [("letter", 2)]) (g := gName 2) (tt := tYes) rfl sc_has_letters.nd (pi_str (pv 0)) (blkOk_by (N := ["word", "many", "letter"]) (sc := defScope s_sendings_has_letters) (by decide +kernel))
      (fun _ _ _ _ _ => pg_name (i := 2) sc_has_letters.nd rfl (Or.inl rfl)) (fun _ _ _ _ _ => pts_nil)
      (fun _ _ _ _ _ => pe_or (pe_cmpR op_in_sign (pv 2) (pe_slice sl_str (pe_gs T.g_words_LETTERS) po_none (po_some (pv 1))) rfl) (pe_one (pe_cmpR op_in_sign (pe_ok (ok_back_of T) hr passL (pa_cons (pv 2) pa_nil)) (pe_slice sl_str (pe_gs T.g_words_LETTERS) po_none (po_some (pv 1))) rfl)))) pa_nil))), ?_⟩
    obtain ⟨u, m, rfl, hl, k⟩ := h
    refine ⟨_, rfl, wS u, rfl, fun D hD => lc_all walk_str (u.map fun x => V.bl (hasL m x)) (by simp) hD (by simpa using big_of hl) (fun _ _ => True.intro) (fun i r v Ha H1 Q' hr2 x1 y hq => ?_) (fun H1 x1 hd => ?_)⟩
    · obtain ⟨rfl, c, hc, rfl⟩ := y
      obtain ⟨x, hx, rfl⟩ := w_at_inv hc
      rw [List.getElem?_map, hx] at hr2
      cases hr2
      have hll : loS.length ≤ sizeLine := big_of (by show 6 ≤ _; decide)
      refine ⟨rfl, _, rfl, _, rfl, (m : Int), rfl, loS, rfl, hll, cp x, _, rfl, rfl, _, rfl, ?_⟩
      rw [in_cut]
      have ho := has_or m x
      have hq : ∀ H4, Ext H1 H4 → Q' (V.bl (hasL m x)) H4 := hq
      cases e : lo x && hasL m x with
      | true =>
        rw [e] at ho
        have ho : true = hasL m x := ho
        rw [← ho] at hq
        exact hq _ Ext.rfl'
      | false =>
        rw [e, Bool.false_or] at ho
        refine ⟨_, rfl, x, rfl, _, rfl, (m : Int), rfl, loS, rfl, hll, cp (bk x), _, rfl, rfl, ?_⟩
        rw [in_cut, ho]
        exact hq _ Ext.rfl'
    · refine ⟨D, u.map (hasL m), rfl, SqL.of (by rw [hd, List.map_map]; rfl), ?_⟩
      have e : (u.map (hasL m)).all id = u.all (hasL m) := by rw [List.all_map]; rfl
      rw [e]
      exact k _ x1
/-! Sending -/
def sendF (n : Nat) (t : Addr) : List (Str × V) := [("goal", vN n), ("first_words", .ref t)]
def SendAt (K : PySem.W.Frag) (H : Hp) (c : Addr) (n : Nat) (us : List (List L)) : Prop := ∃ dx t, H c = some (.ins (He.ga K "Sending") dx (sendF n t)) ∧ H t = some (.tup (usV us))
theorem SendAt.ext {H H' : Hp} {c : Addr} {n : Nat} {us : List (List L)} (h : SendAt K H c n us) (x : Ext H H') : SendAt K H' c n us := by
  obtain ⟨dx, t, h1, h2⟩ := h
  exact ⟨dx, t, x _ _ h1, x _ _ h2⟩
structure GoodS (n : Nat) (us : List (List L)) : Prop where
  one : 1 ≤ n
  six : n ≤ 6
  some : 1 ≤ us.length
  few : us.length ≤ 6
  word : ∀ u ∈ us, u.length ≤ 60 ∧ red u = true ∧ u.all (hasL n) = true
def sp_Send_init (K : PySem.W.Frag) : Sp := fun vs H Q _ => ∃ (c dx a : Addr) (n : Nat) (us : List (List L)), vs = [.ref c, vN n, .ref a] ∧ H c = some (.ins (He.ga K "Sending") dx []) ∧ H a = some (.lst (usV us)) ∧ GoodS n us ∧ ∀ H', Ext1 c H H' → SendAt K H' c n us → Q .non H'
theorem sc_Send_init : FnScope ["self", "into", "words", "word"] ["self", "into", "words"] (defScope s_sendings_Sending___init__) := ⟨rfl, rfl, rfl, by decide +kernel, rfl, by decide +kernel, by decide +kernel⟩
theorem ok_Send_init (T : Txt K mg) : OkI P w K mg base 3 "Sending" ["self", "into", "words"] (sp_Send_init K) := by
  refine okI_of T.f_sendings_Sending___init__ sc_Send_init (fun _ _ _ _ _ _ us hl => match us, hl with | [_, _, _], _ => rfl) (fun vs H Q E h => ?_) (fun f cdv A outer s H vs Q E hr h => ?_)
  · obtain ⟨c, dx, a, n, us, rfl, _⟩ := h
    rfl
  · refine ⟨_, pss_cons (ps_if (pw_or (pt_not (pt_val (pe_ok (ok_is_whole T) (hr.mono (by decide)) passL (pa_cons (pv 1) pa_nil)))) (pw_or (pt_not (pt_chain op_le op_le pe_int (pv 1) (pe_callB call_len_str (by rfl) T.b_len PySem.boot_len (pa_cons (pe_gs T.g_words_LETTERS) pa_nil))))
        (pw_or1 (pt_not (pt_val (pe_callB call_isi (by rfl) T.b_isinstance (by decide +kernel) (pa_cons (pv 2) (pa_cons (pe_bltn (v := .ty "list") (u := .type "list") (by rfl) T.b_list rfl rfl) pa_nil)))))))).pt pss_never pss_nil)
      (pss_cons (ps_if (pt_not (pt_chain op_le op_le pe_int (pe_callB call_len_seq (by rfl) T.b_len PySem.boot_len (pa_cons (pv 2) pa_nil)) (pe_callB call_len_str (by rfl) T.b_len PySem.boot_len (pa_cons (pe_gs T.g_words_LETTERS) pa_nil)))) pss_never pss_nil)
        (pss_cons (ps_if (pt_not (pt_val (pe_callB (cr_all rfl) (by rfl) T.b_all (by decide +kernel) (pa_cons (pe_lc (own := [("word", 3)]) (g := gName 3) (tt := tYes) (te := tAndV (tCall (sp_is_word K) [] E0 (tCons (tVar 3) tNil)) (tCall sp_has_letters [] E0 (tCons (tVar 3) (tCons (tVar 1) tNil)))) rfl sc_Send_init.nd (pi_list (pv 2)) (blkOk_by (N := ["self", "into", "words", "word"]) (sc := defScope s_sendings_Sending___init__) (by decide +kernel))
            (fun _ _ _ _ _ => pg_name (i := 3) sc_Send_init.nd rfl (Or.inl rfl)) (fun _ _ _ _ _ => pts_nil) (fun _ _ _ _ _ => pe_and (pe_ok (ok_is_word T) hr passL (pa_cons (pv 3) pa_nil)) (pe_one (pe_ok (ok_has_letters T) hr passL (pa_cons (pv 3) (pa_cons (pv 1) pa_nil)))))) pa_nil)))) pss_never pss_nil)
          (pss_cons (ps_fld (pv 0) (pv 1) rfl) (pss_one (ps_fld (pv 0) (pe_callTy call_tuple_of (by rfl) T.b_tuple (by decide +kernel) (pa_cons (pv 2) pa_nil)) rfl))))), ?_⟩
    obtain ⟨c, dx, a, n, us, rfl, hc, ha, g, k⟩ := h
    have c1 : decide ((1 : Int) ≤ (n : Int)) = true := by have := g.one; simp; omega
    have c2 : decide ((n : Int) ≤ (loS.length : Int)) = true := by have := g.six; show decide ((n : Int) ≤ 6) = true; simp; omega
    have c3 : decide ((1 : Int) ≤ ((usV us).length : Int)) = true := by have := g.some; rw [List.length_map]; simp; omega
    have c4 : decide (((usV us).length : Int) ≤ (loS.length : Int)) = true := by have := g.few; rw [List.length_map]; show decide ((us.length : Int) ≤ 6) = true; simp; omega
    have hll : loS.length ≤ sizeLine := big_of (by show 6 ≤ _; decide)
    refine ⟨_, rfl, _, _, rfl, .inl ⟨_, rfl, rfl⟩, true, rfl, _, rfl, 1, _, rfl, rfl, true, congrArg V.bl c1, loS, rfl, hll, _, _, rfl, rfl, true, congrArg V.bl c2, _, rfl, _, _, _, _, true, rfl, .ty "list", .base (.lst ha), kit_ty (by decide +kernel), true, rfl, ?_⟩
    refine ⟨_, rfl, a, _, rfl, .inl (SqL.of ha), 1, _, rfl, rfl, true, congrArg V.bl c3, loS, rfl, hll, _, _, rfl, rfl, true, congrArg V.bl c4, ?_⟩
    refine ⟨_, rfl, a, rfl, ⟨_, SqL.of ha⟩, fun D hD => lc_all walk_list (us.map fun _ => V.bl true) (by simp) hD (by rw [List.length_map]; have := g.few; exact big_of (by omega)) (fun H' x => SqL.of (x _ _ ha)) (fun i r v Ha H2 Q' hr2 x2 y hq' => ?_) (fun H2 x2 hd2 => ?_)⟩
    · obtain ⟨rfl, hv⟩ := y
      rw [List.getElem?_map] at hv hr2
      obtain ⟨u, hu, rfl⟩ := Option.map_eq_some_iff.mp hv
      rw [hu] at hr2
      cases hr2
      obtain ⟨h1, h2, h3⟩ := g.word u (List.mem_of_getElem? hu)
      exact ⟨rfl, _, rfl, _, true, rfl, .inl ⟨u, rfl, by omega, by rw [h2, decide_eq_true h1]; rfl⟩, fun H3 x3 => ⟨true, rfl, _, rfl, _, rfl, u, n, rfl, by omega, fun H4 x4 => by rw [h3]; exact hq' _ (x3.trans x4)⟩⟩
    · refine ⟨D, us.map fun _ => true, rfl, SqL.of (by rw [hd2, List.map_map]; rfl), _, rfl, ?_⟩
      have e : (us.map fun _ => true).all id = true := by simp
      rw [e]
      have hc2 := x2 _ _ hc
      refine ⟨_, rfl, _, rfl, c, _, dx, _, rfl, hc2, T.c_Sending.2, T.n_Sending_goal, by decide, ?_⟩
      have y3 : Ext1 c H (upd H2 c (.ins (He.ga K "Sending") dx (putF "goal" (vN n) []))) := x2.e1.put _
      have g1 : upd H2 c (.ins (He.ga K "Sending") dx (putF "goal" (vN n) [])) c = some (.ins (He.ga K "Sending") dx [("goal", vN n)]) := upd_same
      have ha3 : upd H2 c (.ins (He.ga K "Sending") dx (putF "goal" (vN n) [])) a = some (.lst (usV us)) := y3 _ _ (ne_at ha hc (fun z => nomatch z)) ha
      revert y3 g1 ha3
      generalize upd H2 c (.ins (He.ga K "Sending") dx (putF "goal" (vN n) [])) = H3
      intro y3 g1 ha3
      refine ⟨_, rfl, a, _, rfl, .inl ⟨SqL.of ha3, fun t ht => ?_⟩⟩
      have hc4 := (Ext.new (o := .tup (usV us)) ht) _ _ g1
      have nt : t ≠ c := fun z => by rw [z, g1] at ht; cases ht
      exact ⟨_, rfl, c, _, dx, _, rfl, hc4, T.c_Sending.2, T.n_Sending_first_words, (by show 1 < 1000; decide), k _ ((y3.trans (Ext.new ht).e1).put _) ⟨dx, t, upd_same, by rw [upd_ne nt, upd_same]⟩⟩
def sp_Send_many (K : PySem.W.Frag) : Sp := fun vs H Q _ => ∃ (c : Addr) (n : Nat) (us : List (List L)), vs = [.ref c] ∧ SendAt K H c n us ∧ Q (vN us.length) H
theorem sc_Send_many : FnScope ["self"] ["self"] (defScope s_sendings_Sending_many) := ⟨rfl, rfl, rfl, by decide +kernel, rfl, by decide +kernel, by decide +kernel⟩
theorem ok_Send_many (T : Txt K mg) : OkM P w K mg base 1 "Sending" "many" ["self"] (sp_Send_many K) := by
  refine okM_of T.f_sendings_Sending_many sc_Send_many (fun _ _ _ _ _ _ us hl => match us, hl with | [_], _ => rfl) (fun vs H Q E h => ?_) (fun f cdv A outer s H vs Q E hr h => ?_)
  · obtain ⟨c, n, us, rfl, _⟩ := h
    rfl
  · refine ⟨_, pss_one (ps_ret (pe_callB call_len_seq (by rfl) T.b_len PySem.boot_len (pa_cons (pe_fld (pv 0) rfl) pa_nil))), ?_⟩
    obtain ⟨c, n, us, rfl, ⟨dx, t, h1, h2⟩, k⟩ := h
    refine ⟨_, rfl, c, _, dx, _, _, rfl, h1, T.c_Sending.2, T.n_Sending_first_words, rfl, t, _, rfl, .inr (SqT.of h2), ?_⟩
    rw [List.length_map]
    exact k
/-- what a letter is sent to -/
def imgU (us : List (List L)) (x : L) : List L := if lo x = true then us.getD (x.val / 2) [] else bkW (us.getD (x.val / 2) [])
def sp_Send_image (K : PySem.W.Frag) : Sp := fun vs H Q _ => ∃ (c : Addr) (n : Nat) (us : List (List L)) (x : L), vs = [.ref c, .str (lS x)] ∧ SendAt K H c n us ∧ hasL us.length x = true ∧ (∀ u ∈ us, u.length ≤ 60) ∧ ∀ H', Ext H H' → Q (.str (wS (imgU us x))) H'
theorem sc_Send_image : FnScope ["self", "letter"] ["self", "letter"] (defScope s_sendings_Sending_image) := ⟨rfl, rfl, rfl, by decide +kernel, rfl, by decide +kernel, by decide +kernel⟩
theorem occ_lo (x : L) (h : lo x = true) : ∃ rest, Builtin.Str.occurrences loS (lS x) 0 loS.length 1 = (x.val / 2) :: rest := by
  have h2 : lo x = true → (Builtin.Str.occurrences loS (lS x) 0 loS.length 1).head? = some (x.val / 2) := by revert x; decide +kernel
  have h2 := h2 h
  cases e : Builtin.Str.occurrences loS (lS x) 0 loS.length 1 with
  | nil => rw [e] at h2; cases h2
  | cons i r =>
    rw [e] at h2
    cases h2
    exact ⟨r, rfl⟩
theorem ok_Send_image (T : Txt K mg) : OkM P w K mg base 3 "Sending" "image" ["self", "letter"] (sp_Send_image K) := by
  refine okM_of T.f_sendings_Sending_image sc_Send_image (fun _ _ _ _ _ _ us hl => match us, hl with | [_, _], _ => rfl) (fun vs H Q E h => ?_) (fun f cdv A outer s H vs Q E hr h => ?_)
  · obtain ⟨c, n, us, x, rfl, _⟩ := h
    rfl
  · refine ⟨_, pss_cons (ps_if (pt_cmpR op_in_sign (pv 1) (pe_gs T.g_words_LETTERS) rfl)
        (pss_one (ps_ret (pe_ix ix_tup (pe_fld (pv 0) rfl) (pe_bm PySem.F.plainAttrs_str PySem.F.slot_str_index PySem.F.type_str_index mt_sindex (pe_gs T.g_words_LETTERS) (pa_cons (pv 1) pa_nil)) (fun _ _ => rfl)))) pss_nil)
      (pss_one (ps_ret (pe_ok (ok_back T) hr passL (pa_cons (pe_ix ix_tup (pe_fld (pv 0) rfl) (pe_bm PySem.F.plainAttrs_str PySem.F.slot_str_index PySem.F.type_str_index mt_sindex (pe_gs T.g_words_LETTERS) (pa_cons (pe_ok (ok_back_of T) (hr.mono (by decide)) passL (pa_cons (pv 1) pa_nil)) pa_nil)) (fun _ _ => rfl)) pa_nil)))), ?_⟩
    obtain ⟨c, n, us, x, rfl, ⟨dx, t, h1, h2⟩, hx, hus, k⟩ := h
    have hlt : x.val / 2 < us.length := of_decide_eq_true hx
    have hg : us[x.val / 2]? = some us[x.val / 2] := by simp [hlt]
    have hd : us.getD (x.val / 2) [] = us[x.val / 2] := by rw [List.getD_eq_getElem?_getD, hg]; rfl
    have hi : atI (usV us) ((x.val / 2 : Nat) : Int) = some (V.str (wS us[x.val / 2])) := atI_nat (by rw [List.getElem?_map, hg]; rfl)
    refine ⟨_, rfl, cp x, loS, rfl, rfl, _, rfl, ?_⟩
    rw [lo_in]
    cases hlo : lo x with
    | true =>
      obtain ⟨rest, ho⟩ := occ_lo x hlo
      have e : imgU us x = us[x.val / 2] := by unfold imgU; rw [if_pos hlo, hd]
      rw [e] at k
      exact ⟨_, rfl, c, _, dx, _, _, rfl, h1, T.c_Sending.2, T.n_Sending_first_words, rfl, rfl, _, rfl, loS, lS x, x.val / 2, rest, rfl, rfl, ho, t, _, _, _, rfl, rfl, SqT.of h2, hi, k _ Ext.rfl'⟩
    | false =>
      have hlb : lo (bk x) = true := by
        have : ∀ x : L, lo x = false → lo (bk x) = true := by decide
        exact this x hlo
      have hv : (bk x).val / 2 = x.val / 2 := by
        have : ∀ x : L, (bk x).val / 2 = x.val / 2 := by decide
        exact this x
      obtain ⟨rest, ho⟩ := occ_lo (bk x) hlb
      rw [hv] at ho
      have e : imgU us x = bkW us[x.val / 2] := by unfold imgU; rw [if_neg (by rw [hlo]; exact Bool.false_ne_true), hd]
      rw [e] at k
      exact ⟨_, rfl, c, _, dx, _, _, rfl, h1, T.c_Sending.2, T.n_Sending_first_words, rfl, rfl, _, rfl, x, rfl, loS, lS (bk x), x.val / 2, rest, rfl, rfl, ho, t, _, _, _, rfl, rfl, SqT.of h2, hi, us[x.val / 2], rfl, by have := hus _ (List.getElem_mem hlt); omega, k⟩
/-- what a word is sent to -/
def sentU (us : List (List L)) (u : List L) : List L := pt (u.flatMap (imgU us))
def sp_Send_sent (K : PySem.W.Frag) : Sp := fun vs H Q _ => ∃ (c : Addr) (n : Nat) (us : List (List L)) (u : List L), vs = [.ref c, .str (wS u)] ∧ SendAt K H c n us ∧ (∀ u ∈ us, u.length ≤ 60) ∧ u.length ≤ 60 ∧ red u = true ∧ u.all (hasL us.length) = true ∧ ∀ H', Ext H H' → Q (.str (wS (sentU us u))) H'
theorem sc_Send_sent : FnScope ["self", "word", "letter"] ["self", "word"] (defScope s_sendings_Sending_sent) := ⟨rfl, rfl, rfl, by decide +kernel, rfl, by decide +kernel, by decide +kernel⟩
theorem imgU_len {us : List (List L)} (h : ∀ u ∈ us, u.length ≤ 60) (x : L) : (imgU us x).length ≤ 60 := by
  have h1 : (us.getD (x.val / 2) []).length ≤ 60 := by
    rw [List.getD_eq_getElem?_getD]
    cases e : us[x.val / 2]? with
    | none => exact Nat.zero_le _
    | some u => exact h u (List.mem_of_getElem? e)
  unfold imgU
  split
  · exact h1
  · rw [bkW_len]
    exact h1
theorem ok_Send_sent (T : Txt K mg) : OkM P w K mg base 4 "Sending" "sent" ["self", "word"] (sp_Send_sent K) := by
  refine okM_of T.f_sendings_Sending_sent sc_Send_sent (fun _ _ _ _ _ _ us hl => match us, hl with | [_, _], _ => rfl) (fun vs H Q E h => ?_) (fun f cdv A outer s H vs Q E hr h => ?_)
  · obtain ⟨c, n, us, u, rfl, _⟩ := h
    rfl
  · refine ⟨_, pss_cons (ps_expr (pe_ok (E := E0) (ok_need_word T) hr passL (pa_cons (pv 1) pa_nil)))
      (pss_cons (ps_if (pt_not (pt_val (pe_ok (ok_has_letters T) (hr.mono (by decide)) passL (pa_cons (pv 1) (pa_cons (pe_okM0 (pv 0) T.c_Sending (ok_Send_many T) (hr.mono (by decide)) passL) pa_nil))))) pss_never pss_nil)
        (pss_one (ps_ret (pe_ok (ok_put_together T) (hr.mono (by decide)) passL (pa_cons (pe_join pe_str (pe_lc (own := [("letter", 2)]) (g := gName 2) (tt := tYes) (te := tMeth (He.ga K "Sending") "image" (sp_Send_image K) [] E0 (tVar 0) (tCons (tVar 2) tNil)) rfl sc_Send_sent.nd (pi_str (pv 1)) (blkOk_by (N := ["self", "word", "letter"]) (sc := defScope s_sendings_Sending_sent) (by decide +kernel))
          (fun _ _ _ _ _ => pg_name (i := 2) sc_Send_sent.nd rfl (Or.inl rfl)) (fun _ _ _ _ _ => pts_nil) (fun _ _ _ _ _ => pe_okM (pv 0) T.c_Sending (ok_Send_image T) hr passL (pa_cons (pv 2) pa_nil)))) pa_nil))))), ?_⟩
    obtain ⟨c, n, us, u, rfl, hs, hus, hul, hrd, hal, k⟩ := h
    have hs0 := hs
    obtain ⟨dx, t, h1, h2⟩ := hs0
    refine ⟨_, rfl, _, true, rfl, .inl ⟨u, rfl, by omega, by rw [hrd, decide_eq_true hul]; rfl⟩, fun H1 x1 => ?_⟩
    refine ⟨_, rfl, _, rfl, c, dx, _, rfl, x1 _ _ h1, rfl, c, n, us, rfl, hs.ext x1, u, us.length, rfl, by omega, fun H2 x2 => ?_⟩
    rw [hal]
    have x12 := x1.trans x2
    have hlen : (u.map fun x => (imgU us x).map cp).flatten.length ≤ 60 * u.length := by
      have : ∀ l : List L, (l.map fun x => (imgU us x).map cp).flatten.length ≤ 60 * l.length := fun l => by
        induction l with
        | nil => simp
        | cons x l ih =>
          have h1 := imgU_len hus x
          simp only [List.map_cons, List.flatten_cons, List.length_append, List.length_map, List.length_cons]
          omega
      exact this u
    refine ⟨_, rfl, ⟨_, rfl⟩, _, rfl, wS u, rfl, fun D hD => lc_all walk_str (u.map fun x => V.str (wS (imgU us x))) (by simp) hD (by simpa using big_of (by omega)) (fun _ _ => True.intro) (fun i r v Ha H3 Q' hr3 x3 y hq => ?_) (fun H3 x3 hd => ?_)⟩
    · obtain ⟨rfl, cc, hc, rfl⟩ := y
      obtain ⟨x, hx, rfl⟩ := w_at_inv hc
      rw [List.getElem?_map, hx] at hr3
      cases hr3
      have hm := List.all_eq_true.mp hal x (List.mem_of_getElem? hx)
      exact ⟨rfl, _, rfl, c, dx, _, rfl, (x12.trans x3) _ _ h1, rfl, _, rfl, c, n, us, x, rfl, hs.ext (x12.trans x3), hm, hus, fun H' x => hq _ x⟩
    · have ej : (u.map fun x => wS (imgU us x)) = (u.map fun x => (imgU us x).map cp).map tS := by rw [List.map_map]; rfl
      refine ⟨tS [], D, u.map fun x => wS (imgU us x), rfl, rfl, .inl (SqL.of (by rw [hd, List.map_map]; rfl)), ?_, ?_⟩
      · rw [ej, lens_e]
        omega
      · rw [ej, join_e]
        have e2 : (u.map fun x => (imgU us x).map cp).flatten = (u.flatMap (imgU us)).map cp := by
          rw [List.map_flatMap, ← List.flatMap_def]
        rw [e2]
        rw [e2, List.length_map] at hlen
        exact ⟨u.flatMap (imgU us), rfl, by omega, fun H4 x4 => k _ ((x12.trans x3).trans x4)⟩
end
end BW


set_option Elab.async false
set_option linter.all false
set_option maxRecDepth 100000
set_option maxHeartbeats 4000000
namespace BW
open PySem PySem.Spec PyProof.Rows L2 BwR BwE BwD BwS
section
variable {P : Program} {w : World} {K : PySem.W.Frag} {mg : Str → Option Value} {base : Heap}
/-! small ones -/
def isNm (l : List Nat) : Bool := decide (1 ≤ l.length ∧ l.length ≤ 8) && l.all fun c => decide (97 ≤ c ∧ c ≤ 122)
def smS : Str := "abcdefghijklmnopqrstuvwxyz"
theorem in_sm (c : Nat) : decide (c ∈ smS.cps.toList) = decide (97 ≤ c ∧ c ≤ 122) := by
  have e : smS.cps.toList = (List.range 26).map (97 + ·) := by decide +kernel
  rw [e, Bool.eq_iff_iff, decide_eq_true_eq, decide_eq_true_eq]
  constructor
  · intro h
    obtain ⟨i, hi, rfl⟩ := List.mem_map.mp h
    have := List.mem_range.mp hi
    omega
  · intro h
    exact List.mem_map.mpr ⟨c - 97, List.mem_range.mpr (by omega), by omega⟩
def sp_is_name : Sp := fun vs H Q _ => ∃ l, vs = [.str (tS l)] ∧ l.length ≤ 16000000 ∧ ∀ H', Ext H H' → Q (.bl (isNm l)) H'
theorem sc_is_name : FnScope ["word", "sign"] ["word"] (defScope s_desk_is_name) := ⟨rfl, rfl, rfl, by decide +kernel, rfl, by decide +kernel, by decide +kernel⟩
theorem ok_is_name (T : Txt K mg) : Ok P w K mg base 1 (n_desk_is_name) ["word"] sp_is_name := by
  refine ok_of T.f_desk_is_name sc_is_name (fun _ _ _ _ _ _ us hl => match us, hl with | [_], _ => rfl) (fun vs H Q E h => ?_) (fun f cdv A outer s H vs Q E hr h => ?_)
  · obtain ⟨l, rfl, _⟩ := h
    rfl
  · refine ⟨_, pss_one (ps_ret (pe_and (pe_chain op_le op_le pe_int (pe_callB call_len_str (by rfl) T.b_len PySem.boot_len (pa_cons (pv 0) pa_nil)) (pe_gi T.g_desk_MOST_LETTERS)) (pe_one (pe_callB (cr_all rfl) (by rfl) T.b_all (by decide +kernel) (pa_cons
      (pe_lc (own := [("sign", 1)]) (g := gName 1) (tt := tYes) rfl sc_is_name.nd (pi_str (pv 0)) (blkOk_by (N := ["word", "sign"]) (sc := defScope s_desk_is_name) (by decide +kernel)) (fun _ _ _ _ _ => pg_name (i := 1) sc_is_name.nd rfl (Or.inl rfl)) (fun _ _ _ _ _ => pts_nil) (fun _ _ _ _ _ => pe_cmpR op_in_sign (pv 1) (pe_gs T.g_desk_SMALL) rfl)) pa_nil))))), ?_⟩
    obtain ⟨l, rfl, hl, k⟩ := h
    have hl2 : (tS l).length ≤ sizeLine := by rw [tS_len]; exact big_of hl
    have key : ∀ b : Bool, b = decide (1 ≤ l.length ∧ l.length ≤ 8) → (b = false → Q (.bl false) H) := fun b hb hf => by
      have e : isNm l = false := by unfold isNm; rw [← hb, hf]; rfl
      rw [← e]
      exact k _ Ext.rfl'
    refine ⟨_, rfl, tS l, rfl, hl2, 1, _, rfl, rfl, decide ((1 : Int) ≤ ((tS l).length : Int)), rfl, ?_⟩
    rw [tS_len]
    by_cases h1 : (1 : Int) ≤ (l.length : Int)
    · rw [decide_eq_true h1]
      refine ⟨_, _, rfl, rfl, decide ((l.length : Int) ≤ 8), rfl, ?_⟩
      by_cases h2 : (l.length : Int) ≤ 8
      · rw [decide_eq_true h2]
        refine ⟨_, rfl, _, rfl, fun D hD => lc_all walk_str (l.map fun c => V.bl (decide (97 ≤ c ∧ c ≤ 122))) (by simp) hD (by simpa using big_of hl) (fun _ _ => True.intro) (fun i r x Ha H1 Q' hr x1 y hq => ?_) (fun H1 x1 hd => ?_)⟩
        · obtain ⟨rfl, c, hc, rfl⟩ := y
          have hc' : l[i]? = some c := by simpa using hc
          rw [List.getElem?_map, hc'] at hr
          cases hr
          refine ⟨rfl, _, rfl, c, smS, rfl, rfl, ?_⟩
          rw [in_sm]
          exact hq _ Ext.rfl'
        · refine ⟨D, l.map fun c => decide (97 ≤ c ∧ c ≤ 122), rfl, SqL.of (by rw [hd, List.map_map]; rfl), ?_⟩
          have e : (l.map fun c => decide (97 ≤ c ∧ c ≤ 122)).all id = isNm l := by
            unfold isNm
            rw [decide_eq_true (show 1 ≤ l.length ∧ l.length ≤ 8 by omega), Bool.true_and, List.all_map]
            rfl
          rw [e]
          exact k _ x1
      · rw [decide_eq_false h2]
        exact key false (decide_eq_false (by omega)).symm rfl
    · rw [decide_eq_false h1]
      exact ⟨false, rfl, key false (decide_eq_false (by omega)).symm rfl⟩
theorem l_ne1 (x : L) : decide (V.str (lS x) = V.str "1") = false := by
  have : ∀ x : L, decide (lS x = ("1" : Str)) = false := by decide +kernel
  have h := of_decide_eq_false (this x)
  exact decide_eq_false fun e => h (by injection e)
theorem l_ne0 (x : L) : decide (V.str (lS x) = V.str "") = false := by
  have : ∀ x : L, decide (lS x = ("" : Str)) = false := by decide +kernel
  have h := of_decide_eq_false (this x)
  exact decide_eq_false fun e => h (by injection e)
def sp_word_of : Sp := fun vs H Q _ => ∃ x : L, vs = [.str (lS x)] ∧ ∀ H', Ext H H' → Q (.str (lS x)) H'
theorem sc_word_of : FnScope ["word"] ["word"] (defScope s_desk_word_of) := ⟨rfl, rfl, rfl, by decide +kernel, rfl, by decide +kernel, by decide +kernel⟩
theorem ok_word_of (T : Txt K mg) : Ok P w K mg base 3 (n_desk_word_of) ["word"] sp_word_of := by
  refine ok_of T.f_desk_word_of sc_word_of (fun _ _ _ _ _ _ us hl => match us, hl with | [_], _ => rfl) (fun vs H Q E h => ?_) (fun f cdv A outer s H vs Q E hr h => ?_)
  · obtain ⟨x, rfl, _⟩ := h
    rfl
  · refine ⟨_, pss_cons (ps_if (pw_and (pt_cmpR op_ne (pv 0) pe_str (nomark _)) (pw_and1 (pt_not (pt_val (pe_ok (ok_is_word T) hr passL (pa_cons (pv 0) pa_nil)))))).pt pss_never pss_nil)
      (pss_one (ps_ret (pe_ifExp (pt_cmpR op_eq (pv 0) pe_str (nomark _)) pe_str (pv 0)))), ?_⟩
    obtain ⟨x, rfl, k⟩ := h
    refine ⟨_, rfl, rfl, _, rfl, ?_⟩
    rw [l_ne1]
    refine ⟨_, rfl, _, true, rfl, .inl ⟨[x], rfl, (by show 1 ≤ 16000000; decide), rfl⟩, fun H1 x1 => ⟨_, rfl, _, rfl, rfl, _, rfl, ?_⟩⟩
    rw [l_ne1]
    exact ⟨_, rfl, k _ x1⟩
def sp_number_of : Sp := fun vs H Q _ => vs = [.str "6"] ∧ ∀ H', Ext H H' → Q (.int 6) H'
theorem sc_number_of : FnScope ["word", "good", "sign"] ["word"] (defScope s_desk_number_of) := ⟨rfl, rfl, rfl, by decide +kernel, rfl, by decide +kernel, by decide +kernel⟩
theorem ok_number_of (T : Txt K mg) : Ok P w K mg base 1 (n_desk_number_of) ["word"] sp_number_of := by
  refine ok_of T.f_desk_number_of sc_number_of (fun _ _ _ _ _ _ us hl => match us, hl with | [_], _ => rfl) (fun vs H Q E h => ?_) (fun f cdv A outer s H vs Q E hr h => ?_)
  · obtain ⟨rfl, _⟩ := h
    rfl
  · refine ⟨_, pss_cons (ps_set (i := 1) sc_number_of.nd rfl (Or.inl rfl) (pe_and (pe_chain op_le op_le pe_int (pe_callB call_len_str (by rfl) T.b_len PySem.boot_len (pa_cons (pv 0) pa_nil)) (pe_gi T.g_desk_MOST_FIGURES)) (pe_one (pe_callB (cr_all rfl) (by rfl) T.b_all (by decide +kernel) (pa_cons
        (pe_lc (own := [("sign", 2)]) (g := gName 2) (tt := tYes) rfl sc_number_of.nd (pi_str (pv 0)) (blkOk_by (N := ["word", "good", "sign"]) (sc := defScope s_desk_number_of) (by decide +kernel)) (fun _ _ _ _ _ => pg_name (i := 2) sc_number_of.nd rfl (Or.inl rfl)) (fun _ _ _ _ _ => pts_nil) (fun _ _ _ _ _ => pe_cmpR op_in_sign (pv 2) (pe_gs T.g_desk_FIGURES) rfl)) pa_nil)))))
      (pss_cons (ps_if (pw_or (pt_not (pt_val (pv 1))) (pw_or1 (pw_and (pt_cmpR op_eq (pe_ix ix_str (pv 0) pe_int (fun _ _ => rfl)) pe_str (nomark _)) (pw_and1 (pt_cmpR op_ne (pv 0) pe_str (nomark _)))).pt)).pt pss_never pss_nil)
        (pss_one (ps_ret (pe_callTy call_int_str (by rfl) T.b_int (by decide +kernel) (pa_cons (pv 0) pa_nil))))), ?_⟩
    obtain ⟨rfl, k⟩ := h
    have hl : ("6" : Str).length ≤ sizeLine := big_of (by decide)
    refine ⟨_, rfl, _, rfl, hl, 1, _, rfl, rfl, true, rfl, _, _, rfl, rfl, true, rfl, _, rfl, _, rfl, fun D hD => lc_all walk_str [V.bl true] rfl hD (big_of (by decide)) (fun _ _ => True.intro) (fun i r x Ha H1 Q' hr x1 y hq => ?_) (fun H1 x1 hd => ?_)⟩
    · obtain ⟨rfl, c, hc, rfl⟩ := y
      have hi : i = 0 := by
        have := (List.getElem?_eq_some_iff.mp hr).1
        simp at this
        exact this
      subst hi
      cases hr
      cases hc
      exact ⟨rfl, _, rfl, _, _, rfl, rfl, hq _ Ext.rfl'⟩
    · exact ⟨D, [true], rfl, SqL.of hd, _, rfl, true, rfl, _, rfl, _, _, _, rfl, rfl, hl, rfl, rfl, false, rfl, _, rfl, _, 6, rfl, by decide +kernel, by decide, k _ x1⟩
def sp_shown : Sp := fun vs H Q _ => ∃ x : L, vs = [.str (lS x)] ∧ Q (.str (lS x)) H
theorem sc_shown : FnScope ["word"] ["word"] (defScope s_desk_shown) := ⟨rfl, rfl, rfl, by decide +kernel, rfl, by decide +kernel, by decide +kernel⟩
theorem ok_shown (T : Txt K mg) : Ok P w K mg base 1 (n_desk_shown) ["word"] sp_shown := by
  refine ok_of T.f_desk_shown sc_shown (fun _ _ _ _ _ _ us hl => match us, hl with | [_], _ => rfl) (fun vs H Q E h => ?_) (fun f cdv A outer s H vs Q E hr h => ?_)
  · obtain ⟨x, rfl, _⟩ := h
    rfl
  · refine ⟨_, pss_one (ps_ret (pe_ifExp (pt_cmpR op_eq (pv 0) pe_str (nomark _)) pe_str (pv 0))), ?_⟩
    obtain ⟨x, rfl, k⟩ := h
    refine ⟨_, rfl, rfl, _, rfl, ?_⟩
    rw [l_ne0]
    exact ⟨_, rfl, k⟩
def sp_all_shown : Sp := fun vs H Q _ => ∃ (a : Addr) (x : L), vs = [.ref a] ∧ H a = some (.lst [.str (lS x)]) ∧ ∀ H', Ext H H' → Q (.str (lS x)) H'
theorem sc_all_shown : FnScope ["words", "word"] ["words"] (defScope s_desk_all_shown) := ⟨rfl, rfl, rfl, by decide +kernel, rfl, by decide +kernel, by decide +kernel⟩
theorem ok_all_shown (T : Txt K mg) : Ok P w K mg base 2 (n_desk_all_shown) ["words"] sp_all_shown := by
  refine ok_of T.f_desk_all_shown sc_all_shown (fun _ _ _ _ _ _ us hl => match us, hl with | [_], _ => rfl) (fun vs H Q E h => ?_) (fun f cdv A outer s H vs Q E hr h => ?_)
  · obtain ⟨a, x, rfl, _⟩ := h
    rfl
  · refine ⟨_, pss_one (ps_ret (pe_orT (pe_join pe_str (pe_lc (own := [("word", 1)]) (g := gName 1) (tt := tYes) rfl sc_all_shown.nd (pi_list (pv 0)) (blkOk_by (N := ["words", "word"]) (sc := defScope s_desk_all_shown) (by decide +kernel)) (fun _ _ _ _ _ => pg_name (i := 1) sc_all_shown.nd rfl (Or.inl rfl)) (fun _ _ _ _ _ => pts_nil) (fun _ _ _ _ _ => pe_ok (ok_shown T) hr passL (pa_cons (pv 1) pa_nil)))) (pe_one pe_str))), ?_⟩
    obtain ⟨a, x, rfl, ha, k⟩ := h
    refine ⟨⟨_, rfl⟩, _, rfl, a, rfl, ⟨_, SqL.of ha⟩, fun D hD => lc_all walk_list [V.str (lS x)] rfl hD (big_of (by show 1 ≤ _; decide)) (fun H' z => SqL.of (z _ _ ha)) (fun i r v Ha H1 Q' hr x1 y hq => ?_) (fun H1 x1 hd => ?_)⟩
    · obtain ⟨rfl, hv⟩ := y
      rw [hr] at hv
      cases hv
      have e : r = .str (lS x) := by
        have := List.mem_of_getElem? hr
        simpa using this
      subst e
      exact ⟨rfl, _, rfl, x, rfl, hq _ Ext.rfl'⟩
    · refine ⟨" ", D, [lS x], rfl, rfl, .inl (SqL.of hd), by show 1 + 0 + 1 * 1 ≤ 16777216; decide, ?_⟩
      have e : Txt.join " " [lS x] = lS x := SX.join_S [32] [[cp x]]
      rw [e]
      exact ⟨true, ⟨big_of (by show 1 ≤ _; decide), rfl⟩, k _ x1⟩
def sp_need_many : Sp := fun vs H Q _ => ∃ (a : Addr) (ws : List Str) (i j : Nat), vs = [.ref a, vN i, vN j] ∧ H a = some (.lst (ws.map V.str)) ∧ i ≤ ws.length ∧ ws.length ≤ j ∧ Q .non H
theorem sc_need_many : FnScope ["words", "least_many", "most"] ["words", "least_many", "most"] (defScope s_desk_need_many) := ⟨rfl, rfl, rfl, by decide +kernel, rfl, by decide +kernel, by decide +kernel⟩
theorem ok_need_many (T : Txt K mg) : Ok P w K mg base 1 (n_desk_need_many) ["words", "least_many", "most"] sp_need_many := by
  refine ok_of T.f_desk_need_many sc_need_many (fun _ _ _ _ _ _ us hl => match us, hl with | [_, _, _], _ => rfl) (fun vs H Q E h => ?_) (fun f cdv A outer s H vs Q E hr h => ?_)
  · obtain ⟨a, ws, i, j, rfl, _⟩ := h
    rfl
  · refine ⟨_, pss_one (ps_if (pt_not (pt_chain op_le op_le (pv 1) (pe_callB call_len_seq (by rfl) T.b_len PySem.boot_len (pa_cons (pv 0) pa_nil)) (pv 2))) pss_never pss_nil), ?_⟩
    obtain ⟨a, ws, i, j, rfl, ha, h1, h2, k⟩ := h
    have c1 : decide ((i : Int) ≤ ((ws.map V.str).length : Int)) = true := by rw [List.length_map]; simp; omega
    have c2 : decide (((ws.map V.str).length : Int) ≤ (j : Int)) = true := by rw [List.length_map]; simp; omega
    exact ⟨_, rfl, _, rfl, a, _, rfl, .inl (SqL.of ha), _, _, rfl, rfl, true, congrArg V.bl c1, _, rfl, _, _, rfl, rfl, true, congrArg V.bl c2, k⟩
end
end BW


set_option Elab.async false
set_option linter.all false
set_option maxRecDepth 100000
set_option maxHeartbeats 4000000
namespace BW
open PySem PySem.Spec PyProof.Rows L2 BwR BwE BwD BwS
/-! what clubs and sendings of one letter come to -/
def stx (x : L) : St := [((0, x), 0), ((0, bk x), 0)]
theorem plainX (x : L) (h : lo x = true) : PlainOf [(0, x, 0)] 1 [(0, x, 0)] (stx x) := by
  have h1 : ∀ x : L, lo x = true → stepsOf [(0, x, 0)] = some (stx x) ∧ comeW 3 (stx x) [0] 0 = some [0] ∧ trimW 3 [(0, x, 0)] = some [(0, x, 0)] := by decide +kernel
  obtain ⟨a1, a2, a3⟩ := h1 x h
  refine ⟨⟨stx x, [0], 3, [(0, x, 0)], 3, stx x, [0], 3, a1, a2, by decide, a3, a1, a2, fun r hr => ?_, rfl, rfl⟩, ⟨by decide, by decide, fun r hr => ?_, fun r hr => ?_, a1, by show 1 < 77; decide⟩⟩
  · rw [List.mem_singleton] at hr
    subst hr
    exact ⟨List.mem_singleton.mpr rfl, List.mem_singleton.mpr rfl⟩
  · rw [List.mem_singleton] at hr
    subst hr
    exact h
  · rw [List.mem_singleton] at hr
    subst hr
    rfl
theorem foldX (x : L) (h : lo x = true) : FoldOf (cirM [[x]] (1, [])).1 (cirM [[x]] (1, [])).2 1 [(0, x, 0)] (stx x) := by
  have h1 : ∀ x : L, lo x = true → cirM [[x]] (1, []) = (1, [(0, x, 0)]) ∧ putsM 5 5 (newFS 1) [(0, x, 0)] = some ⟨[0], [[(x, 0), (bk x, 0)]], []⟩ ∧ roadsM 5 ⟨[0], [[(x, 0), (bk x, 0)]], []⟩ = [(0, x, 0)] := by decide +kernel
  obtain ⟨a1, a2, a3⟩ := h1 x h
  rw [a1]
  refine ⟨by show 1 ≤ 1; decide, by show 1 ≤ 2000; decide, fun r hr => ?_, fun r hr => ?_, by show 1 ≤ 1000000; decide, 5, 5, _, a2, fun s hs y q hq => ?_, by show 1 ≤ 4000000; decide, by rw [a3]; show 1 ≤ 1000000; decide, fun r hr => ?_, by rw [a3]; exact plainX x h⟩
  · rw [List.mem_singleton] at hr
    subst hr
    exact h
  · rw [List.mem_singleton] at hr
    subst hr
    rfl
  · rw [List.mem_singleton] at hs
    subst hs
    have e : q = 0 := by
      have hm := getA_mem hq
      rcases List.mem_cons.mp hm with e | e
      · cases e; rfl
      · rcases List.mem_cons.mp e with e | e
        · cases e; rfl
        · cases e
    subst e
    rfl
  · rw [a3, List.mem_singleton] at hr
    subst hr
    exact ⟨rfl, rfl⟩
theorem srtX (x : L) : srt [(0, x, 0)] = [(0, x, 0)] := rfl
theorem fewX (x : L) (h : lo x = true) : FewOf [(0, x, 0)] [[x]] := by
  have h1 : ∀ x : L, lo x = true → treeW 3 (stx x) [(0, ([], 0))] 0 = some [(0, ([], 0))] ∧ [(0, x, 0)].filter (isOther [(0, ([], 0))]) = [(0, x, 0)] ∧ fewU [[]] (0, x, 0) = [x] := by decide +kernel
  obtain ⟨a1, a2, a3⟩ := h1 x h
  refine ⟨1, [(0, x, 0)], stx x, 1, [(0, x, 0)], stx x, 3, [(0, ([], 0))], [[]], 3, [(0, ([], 0))], by show 1 ≤ 4000000; decide, plainX x h, by show 1 ≤ 4000000; decide, plainX x h, a1, by show 1 ≤ 4000000; decide, ⟨rfl, fun i u hu => ?_⟩, a1, by show 1 ≤ 4000000; decide, fun r hr => ?_, fun r hr => ?_, ?_⟩
  · have hi : i = 0 := by
      have := (List.getElem?_eq_some_iff.mp hu).1
      simp at this
      exact this
    subst hi
    cases hu
    exact ⟨Nat.zero_le _, 1, rfl⟩
  · rw [srtX, List.mem_singleton] at hr
    subst hr
    exact ⟨rfl, rfl⟩
  · rw [srtX, a2, List.mem_singleton] at hr
    subst hr
    exact ⟨by show 0 < 1; decide, by show 0 < 1; decide⟩
  · rw [srtX, a2, List.map_cons, List.map_nil, a3]
theorem goodX (x : L) : GoodU [[x]] := ⟨by show 1 ≤ 8; decide, fun u hu => by
  rw [List.mem_singleton] at hu
  subst hu
  exact ⟨by show 1 ≤ 60; decide, rfl⟩⟩
theorem sendX (x : L) : GoodS 6 [[x]] := ⟨by decide, by decide, by show 1 ≤ 1; decide, by show 1 ≤ 6; decide, fun u hu => by
  rw [List.mem_singleton] at hu
  subst hu
  refine ⟨by show 1 ≤ 60; decide, rfl, ?_⟩
  have : ∀ x : L, [x].all (hasL 6) = true := by decide
  exact this x⟩
theorem sentX (x : L) : sentU [[x]] [0] = [x] := by
  have : ∀ x : L, sentU [[x]] [0] = [x] := by decide +kernel
  exact this x
section
variable {P : Program} {w : World} {K : PySem.W.Frag} {mg : Str → Option Value} {base : Heap}
/-! a desk in the heap -/
def ThingAt (K : PySem.W.Frag) (H : Hp) (a : Addr) (b : Bool) (x : L) : Prop := match b with
  | true => ClubAt K H a [[x]] 1 [(0, x, 0)] (stx x)
  | false => SendAt K H a 6 [[x]]
theorem ThingAt.ext {H H' : Hp} {a : Addr} {b : Bool} {x : L} (h : ThingAt K H a b x) (z : Ext H H') : ThingAt K H' a b x := by
  cases b with
  | true => exact ClubAt.ext h z
  | false => exact SendAt.ext h z
abbrev Nm := List (Str × (Addr × (Bool × L)))
abbrev kS (z : Str) : Key := Sum.inr z
theorem kS_inj (a b : Str) (h : kS a = kS b) : a = b := by
  injection h
def nmV (e : Addr × (Bool × L)) : V := .ref e.1
abbrev kvS (nm : Nm) : List (Key × V) := encD kS nmV nm
structure DeskAt (K : PySem.W.Frag) (H : Hp) (p d : Addr) (nm : Nm) : Prop where
  self : ∃ dx, H p = some (.ins (He.ga K "Desk") dx [("named", .ref d)])
  dict : H d = some (.dK (kvS nm))
  things : ∀ e ∈ nm, ThingAt K H e.2.1 e.2.2.1 e.2.2.2
  low : ∀ e ∈ nm, lo e.2.2.2 = true
theorem DeskAt.ext {H H' : Hp} {p d : Addr} {nm : Nm} (h : DeskAt K H p d nm) (x : Ext H H') : DeskAt K H' p d nm := by
  obtain ⟨⟨dx, h1⟩, h2, h3, h4⟩ := h
  exact ⟨⟨dx, x _ _ h1⟩, x _ _ h2, fun e he => (h3 e he).ext x, h4⟩
theorem dget_s {H : Hp} {d : Addr} {nm : Nm} (h : H d = some (.dK (kvS nm))) (z : Str) : DGet H d (.str z) ((getA nm z).map nmV) := by
  rw [← val_enc (g := nmV) kS_inj z nm]
  exact DGet.k (k := kS z) h
/-- things stand when another dict changes -/
theorem ThingAt.e1 {H H' : Hp} {d a : Addr} {b : Bool} {x : L} {kvs : List (Key × V)} (h : ThingAt K H a b x) (hd : H d = some (.dK kvs)) (z : Ext1 d H H') : ThingAt K H' a b x := by
  cases b with
  | true =>
    obtain ⟨dx, t, w, h1, h2, dxw, dw, tw, prsw, w1, w2, w3, w4, w5⟩ := h
    refine ⟨dx, t, w, z _ _ (ne_at h1 hd (fun q => nomatch q)) h1, z _ _ (ne_at h2 hd (fun q => nomatch q)) h2, dxw, dw, tw, prsw, z _ _ (ne_at w1 hd (fun q => nomatch q)) w1, z _ _ (ne_at w2 hd (fun q => nomatch q)) w2, z _ _ (ne_at w3 hd (fun q => nomatch q)) w3, fun q hq => z _ _ (ne_at (w4 q hq) hd (fun q => nomatch q)) (w4 q hq), w5⟩
  | false =>
    obtain ⟨dx, t, h1, h2⟩ := h
    exact ⟨dx, t, z _ _ (ne_at h1 hd (fun q => nomatch q)) h1, z _ _ (ne_at h2 hd (fun q => nomatch q)) h2⟩
theorem DeskAt.e1 {H H' : Hp} {p d d' : Addr} {nm : Nm} {kvs : List (Key × V)} (h : DeskAt K H p d nm) (hd : H d' = some (.dK kvs)) (n : d ≠ d') (z : Ext1 d' H H') : DeskAt K H' p d nm := by
  obtain ⟨⟨dx, h1⟩, h2, h3, h4⟩ := h
  exact ⟨⟨dx, z _ _ (ne_at h1 hd (fun q => nomatch q)) h1⟩, z _ _ n h2, fun e he => (h3 e he).e1 hd z, h4⟩
/-! Desk.__init__, keep, club, sending -/
def sp_Desk_init (K : PySem.W.Frag) : Sp := fun vs H Q _ => ∃ p dx, vs = [.ref p] ∧ H p = some (.ins (He.ga K "Desk") dx []) ∧ ∀ H' d, Ext1 p H H' → H d = none → DeskAt K H' p d [] → Q .non H'
theorem sc_Desk_init : FnScope ["self"] ["self"] (defScope s_desk_Desk___init__) := ⟨rfl, rfl, rfl, by decide +kernel, rfl, by decide +kernel, by decide +kernel⟩
theorem ok_Desk_init (T : Txt K mg) : OkI P w K mg base 1 "Desk" ["self"] (sp_Desk_init K) := by
  refine okI_of T.f_desk_Desk___init__ sc_Desk_init (fun _ _ _ _ _ _ us hl => match us, hl with | [_], _ => rfl) (fun vs H Q E h => ?_) (fun f cdv A outer s H vs Q E hr h => ?_)
  · obtain ⟨p, dx, rfl, _⟩ := h
    rfl
  · refine ⟨_, pss_one (ps_fld (pv 0) pe_dnewK rfl), ?_⟩
    obtain ⟨p, dx, rfl, hp, k⟩ := h
    refine fun d hd => ?_
    have hp1 := (Ext.new (o := .dK []) hd) _ _ hp
    have nd : d ≠ p := fun z => by rw [z, hp] at hd; cases hd
    exact ⟨_, rfl, p, _, dx, _, rfl, hp1, T.c_Desk.2, T.n_Desk_named, by decide, k _ d ((Ext.new hd).e1.put _) hd ⟨⟨dx, upd_same⟩, by rw [upd_ne nd, upd_same]; rfl, (fun _ z => nomatch z), (fun _ z => nomatch z)⟩⟩
def sp_Desk_keep (K : PySem.W.Frag) : Sp := fun vs H Q _ => ∃ (p d : Addr) (nm : Nm) (z : Str) (a : Addr) (b : Bool) (x : L), vs = [.ref p, .str z, .ref a] ∧ DeskAt K H p d nm ∧ nm.length ≤ 1000000 ∧ ThingAt K H a b x ∧ lo x = true ∧ ∀ H', Ext1 d H H' → DeskAt K H' p d (putA nm z (a, (b, x))) → Q (.str "ok") H'
theorem sc_Desk_keep : FnScope ["self", "word", "thing"] ["self", "word", "thing"] (defScope s_desk_Desk_keep) := ⟨rfl, rfl, rfl, by decide +kernel, rfl, by decide +kernel, by decide +kernel⟩
theorem putA_mem {α β : Type} [DecidableEq α] {xs : List (α × β)} {k : α} {v : β} {e : α × β} (h : e ∈ putA xs k v) : e ∈ xs ∨ e.2 = v := by
  unfold putA at h
  split at h
  · obtain ⟨q, hq, rfl⟩ := List.mem_map.mp h
    by_cases hk : q.1 = k
    · rw [if_pos hk]
      exact .inr rfl
    · rw [if_neg hk]
      exact .inl hq
  · rcases List.mem_append.mp h with h | h
    · exact .inl h
    · rw [List.mem_singleton] at h
      subst h
      exact .inr rfl
theorem ok_Desk_keep (T : Txt K mg) : OkM P w K mg base 1 "Desk" "keep" ["self", "word", "thing"] (sp_Desk_keep K) := by
  refine okM_of T.f_desk_Desk_keep sc_Desk_keep (fun _ _ _ _ _ _ us hl => match us, hl with | [_, _, _], _ => rfl) (fun vs H Q E h => ?_) (fun f cdv A outer s H vs Q E hr h => ?_)
  · obtain ⟨p, d, nm, z, a, b, x, rfl, _⟩ := h
    rfl
  · refine ⟨_, pss_cons (ps_dput (hu_of hr) (pe_fld (pv 0) rfl) (pv 1) (pv 2) rfl) (pss_one (ps_ret pe_str)), ?_⟩
    obtain ⟨p, d, nm, z, a, b, x, rfl, hd, hl, ht, hx, k⟩ := h
    obtain ⟨⟨dx, h1⟩, h2, h3, h4⟩ := hd
    refine ⟨_, rfl, _, rfl, p, _, dx, _, _, rfl, h1, T.c_Desk.2, T.n_Desk_named, rfl, _, rfl, d, _, rfl, DPut.k (k := kS z) h2 (by rw [encD_len]; exact big_lt (by omega)), ?_⟩
    have e : putK (kvS nm) (kS z) (.ref a) = kvS (putA nm z (a, (b, x))) := put_enc (g := nmV) kS_inj z (a, (b, x)) nm
    rw [e]
    have y : Ext1 d H (upd H d (.dK (kvS (putA nm z (a, (b, x)))))) := Ext1.rfl'.put _
    refine k _ y ⟨⟨dx, y _ _ (ne_at h1 h2 (fun q => nomatch q)) h1⟩, upd_same, fun q hq => ?_, fun q hq => ?_⟩
    · rcases putA_mem hq with hq | hq
      · exact (h3 q hq).e1 h2 y
      · rw [hq]
        exact ht.e1 h2 y
    · rcases putA_mem hq with hq | hq
      · exact h4 q hq
      · rw [hq]
        exact hx
def sp_Desk_club (K : PySem.W.Frag) : Sp := fun vs H Q E => ∃ (p d : Addr) (nm : Nm) (z : Str), vs = [.ref p, .str z] ∧ DeskAt K H p d nm ∧
  match getA nm z with
  | some (_, (true, x)) => ∀ w, WebAt K H w 1 (stx x) [(0, x, 0)] → Q (.ref w) H
  | _ => E (.ref (He.ga K "NoRow")) none H
theorem sc_Desk_club : FnScope ["self", "word", "found"] ["self", "word"] (defScope s_desk_Desk_club) := ⟨rfl, rfl, rfl, by decide +kernel, rfl, by decide +kernel, by decide +kernel⟩
theorem ok_Desk_club (T : Txt K mg) : OkM P w K mg base 2 "Desk" "club" ["self", "word"] (sp_Desk_club K) := by
  refine okM_of T.f_desk_Desk_club sc_Desk_club (fun _ _ _ _ _ _ us hl => match us, hl with | [_, _], _ => rfl) (fun vs H Q E h => ?_) (fun f cdv A outer s H vs Q E hr h => ?_)
  · obtain ⟨p, d, nm, z, rfl, _⟩ := h
    rfl
  · refine ⟨_, pss_cons (ps_set (i := 2) sc_Desk_club.nd rfl (Or.inl rfl) (pe_dget1 (hu_of hr) (pe_fld (pv 0) rfl) (pv 1) ⟨rfl, rfl, rfl, rfl⟩))
      (pss_cons (ps_if (pt_val (pe_callB call_isi (by rfl) T.b_isinstance (by decide +kernel) (pa_cons (pv 2) (pa_cons (pe_glob (v := V.ref (He.ga K "Club")) (by rfl) T.c_Club.1 rfl) pa_nil)))) (pss_one (ps_ret (pe_okM0 (pv 2) T.c_Club (ok_Club_web T) hr passL))) pss_nil)
        (pss_cons (ps_if (pt_not (pt_val (pe_callB call_isi (by rfl) T.b_isinstance (by decide +kernel) (pa_cons (pv 2) (pa_cons (pe_glob (v := V.ref (He.ga K "Web")) (by rfl) T.c_Web.1 rfl) pa_nil))))) (pss_one (ps_rs rfl T.e_NoRow (takes_of rfl rfl rfl rfl))) pss_nil)
          pss_never)), ?_⟩
    obtain ⟨p, d, nm, z, rfl, hd, k⟩ := h
    obtain ⟨⟨dx, h1⟩, h2, h3, h4⟩ := hd
    have dg := dget_s h2 z
    refine ⟨_, rfl, p, _, dx, _, _, rfl, h1, T.c_Desk.2, T.n_Desk_named, rfl, d, rfl, .inl ⟨_, .of h2⟩, _, rfl, _, dg, ?_⟩
    cases e : getA nm z with
    | none =>
      rw [e] at k
      exact ⟨_, rfl, _, _, _, _, false, rfl, .own _, .base .non, T.k_None_Club, false, rfl, _, rfl, _, _, _, _, false, rfl, .own _, .base .non, T.k_None_Web, false, rfl, k⟩
    | some ab =>
      obtain ⟨a, b, x⟩ := ab
      rw [e] at k
      have hm := h3 _ (getA_mem e)
      cases b with
      | true =>
        have hm0 : ClubAt K H a [[x]] 1 [(0, x, 0)] (stx x) := hm
        have hm1 := hm0
        obtain ⟨dxc, tc, wc, c1, c2, c3⟩ := hm1
        exact ⟨_, rfl, _, _, _, _, true, rfl, .own _, ty_ins c1 T.c_Club.2 T.i_Club T.x_gl, T.k_Club_Club, true, rfl, _, rfl, a, dxc, _, rfl, c1, rfl, a, _, _, _, _, rfl, hm0, fun q hq => k q (by rw [srtX] at hq; exact hq)⟩
      | false =>
        have hm0 : SendAt K H a 6 [[x]] := hm
        obtain ⟨dxc, tc, c1, c2⟩ := hm0
        exact ⟨_, rfl, _, _, _, _, false, rfl, .own _, ty_ins c1 T.c_Sending.2 T.i_Sending T.x_gl, T.k_Sending_Club, false, rfl, _, rfl, _, _, _, _, false, rfl, .own _, ty_ins c1 T.c_Sending.2 T.i_Sending T.x_gl, T.k_Sending_Web, false, rfl, k⟩
def sp_Desk_sending (K : PySem.W.Frag) : Sp := fun vs H Q E => ∃ (p d : Addr) (nm : Nm) (z : Str), vs = [.ref p, .str z] ∧ DeskAt K H p d nm ∧
  match getA nm z with
  | some (a, (false, x)) => SendAt K H a 6 [[x]] → Q (.ref a) H
  | _ => E (.ref (He.ga K "NoRow")) none H
theorem sc_Desk_sending : FnScope ["self", "word", "found"] ["self", "word"] (defScope s_desk_Desk_sending) := ⟨rfl, rfl, rfl, by decide +kernel, rfl, by decide +kernel, by decide +kernel⟩
theorem ok_Desk_sending (T : Txt K mg) : OkM P w K mg base 2 "Desk" "sending" ["self", "word"] (sp_Desk_sending K) := by
  refine okM_of T.f_desk_Desk_sending sc_Desk_sending (fun _ _ _ _ _ _ us hl => match us, hl with | [_, _], _ => rfl) (fun vs H Q E h => ?_) (fun f cdv A outer s H vs Q E hr h => ?_)
  · obtain ⟨p, d, nm, z, rfl, _⟩ := h
    rfl
  · refine ⟨_, pss_cons (ps_set (i := 2) sc_Desk_sending.nd rfl (Or.inl rfl) (pe_dget1 (hu_of hr) (pe_fld (pv 0) rfl) (pv 1) ⟨rfl, rfl, rfl, rfl⟩))
      (pss_cons (ps_if (pt_not (pt_val (pe_callB call_isi (by rfl) T.b_isinstance (by decide +kernel) (pa_cons (pv 2) (pa_cons (pe_glob (v := V.ref (He.ga K "Sending")) (by rfl) T.c_Sending.1 rfl) pa_nil))))) (pss_one (ps_rs rfl T.e_NoRow (takes_of rfl rfl rfl rfl))) pss_nil)
        (pss_one (ps_ret (pv 2)))), ?_⟩
    obtain ⟨p, d, nm, z, rfl, hd, k⟩ := h
    obtain ⟨⟨dx, h1⟩, h2, h3, h4⟩ := hd
    have dg := dget_s h2 z
    refine ⟨_, rfl, p, _, dx, _, _, rfl, h1, T.c_Desk.2, T.n_Desk_named, rfl, d, rfl, .inl ⟨_, .of h2⟩, _, rfl, _, dg, ?_⟩
    cases e : getA nm z with
    | none =>
      rw [e] at k
      exact ⟨_, rfl, _, _, _, _, false, rfl, .own _, .base .non, T.k_None_Sending, false, rfl, k⟩
    | some ab =>
      obtain ⟨a, b, x⟩ := ab
      rw [e] at k
      have hm := h3 _ (getA_mem e)
      cases b with
      | true =>
        have hm0 : ClubAt K H a [[x]] 1 [(0, x, 0)] (stx x) := hm
        obtain ⟨dxc, tc, wc, c1, c2, c3⟩ := hm0
        exact ⟨_, rfl, _, _, _, _, false, rfl, .own _, ty_ins c1 T.c_Club.2 T.i_Club T.x_gl, T.k_Club_Sending, false, rfl, k⟩
      | false =>
        have hm0 : SendAt K H a 6 [[x]] := hm
        have hm1 := hm0
        obtain ⟨dxc, tc, c1, c2⟩ := hm1
        exact ⟨_, rfl, _, _, _, _, true, rfl, .own _, ty_ins c1 T.c_Sending.2 T.i_Sending T.x_gl, T.k_Sending_Sending, true, rfl, _, rfl, k hm0⟩
end
end BW


set_option Elab.async false
set_option linter.all false
set_option maxRecDepth 100000
set_option maxHeartbeats 4000000
namespace BW
open PySem PySem.Spec PyProof.Rows L2 BwR BwE BwD BwS
section
variable {P : Program} {w : World} {K : PySem.W.Frag} {mg : Str → Option Value} {base : Heap}
theorem tS_eta (z : Str) : tS z.cps.toList = z := by
  cases z
  simp
/-- a row that tells a name -/
def tellW (b : Bool) (n : Str) (x : L) : List Str := match b with
  | true => ["club", n, lS x]
  | false => ["sending", n, "6", lS x]
def sp_Desk_make (K : PySem.W.Frag) : Sp := fun vs H Q E => ∃ (p d a : Addr) (nm : Nm) (b : Bool) (n : Str) (x : L), vs = [.ref p, .ref a] ∧ DeskAt K H p d nm ∧ nm.length ≤ 1000000 ∧ lo x = true ∧ n.length ≤ 1000000 ∧ H a = some (.lst ((tellW b n x).map V.str)) ∧
  (isNm n.cps.toList = true → ∀ H' t, Ext1 d H H' → DeskAt K H' p d (putA nm n (t, (b, x))) → Q (.str "ok") H') ∧ (isNm n.cps.toList = false → ∀ H', Ext H H' → E (.ref (He.ga K "NoRow")) none H')
theorem sc_Desk_make : FnScope ["self", "words", "word", "rest", "one"] ["self", "words"] (defScope s_desk_Desk_make) := ⟨rfl, rfl, rfl, by decide +kernel, rfl, by decide +kernel, by decide +kernel⟩
theorem ok_Desk_make (T : Txt K mg) : OkM P w K mg base 11 "Desk" "make" ["self", "words"] (sp_Desk_make K) := by
  refine okM_of T.f_desk_Desk_make sc_Desk_make (fun _ _ _ _ _ _ us hl => match us, hl with | [_, _], _ => rfl) (fun vs H Q E h => ?_) (fun f cdv A outer s H vs Q E hr h => ?_)
  · obtain ⟨p, d, a, nm, b, n, x, rfl, _⟩ := h
    rfl
  · refine ⟨_, pss_cons (ps_if (pw_or (pt_cmpR op_lt (pe_callB call_len_seq (by rfl) T.b_len PySem.boot_len (pa_cons (pv 1) pa_nil)) pe_int (nomark _)) (pw_or1 (pt_not (pt_val (pe_ok (ok_is_name T) (hr.mono (by decide)) passL (pa_cons (pe_ix ix_list (pv 1) pe_int (fun _ _ => rfl)) pa_nil)))))).pt
        (pss_one (ps_rs rfl T.e_NoRow (takes_of rfl rfl rfl rfl))) pss_nil)
      (pss_cons (ps_par (i := 2) (j := 3) rfl sc_Desk_make.nd rfl rfl (by decide) rfl rfl (pa_cons (pe_ix ix_list (pv 1) pe_int (fun _ _ => rfl)) (pa_cons (pe_slice sl_list (pv 1) (po_some pe_int) po_none) pa_nil)) rfl)
        (pss_cons (ps_if (pt_cmpR op_eq (pv 2) pe_str (nomark _)) (pss_cons (ps_expr (pe_ok (ok_need_many T) (hr.mono (by decide)) passL (pa_cons (pv 3) (pa_cons pe_int (pa_cons (pe_gi T.g_desk_MOST_WORDS) pa_nil)))))
            (pss_one (ps_ret (pe_okM (pv 0) T.c_Desk (ok_Desk_keep T) (hr.mono (by decide)) passL (pa_cons (pe_ix ix_list (pv 1) pe_int (fun _ _ => rfl)) (pa_cons (pe_okI (ok_Club_init T) T.c_Club hr passL (pa_cons
              (pe_lc (own := [("one", 4)]) (g := gName 4) (tt := tYes) (te := tCall sp_word_of [] E0 (tCons (tVar 4) tNil)) rfl sc_Desk_make.nd (pi_list (pv 3)) (blkOk_by (N := ["self", "words", "word", "rest", "one"]) (sc := defScope s_desk_Desk_make) (by decide +kernel)) (fun _ _ _ _ _ => pg_name (i := 4) sc_Desk_make.nd rfl (Or.inl rfl)) (fun _ _ _ _ _ => pts_nil) (fun _ _ _ _ _ => pe_ok (ok_word_of T) (hr.mono (by decide)) passL (pa_cons (pv 4) pa_nil))) pa_nil)) pa_nil)))))) pss_nil)
          (pss_cons (ps_if (pt_cmpR op_eq (pv 2) pe_str (nomark _)) (pss_cons (ps_expr (pe_ok (ok_need_many T) (hr.mono (by decide)) passL (pa_cons (pv 3) (pa_cons pe_int (pa_cons (pe_gi T.g_desk_MOST_WORDS) pa_nil)))))
              (pss_one (ps_ret (pe_okM (pv 0) T.c_Desk (ok_Desk_keep T) (hr.mono (by decide)) passL (pa_cons (pe_ix ix_list (pv 1) pe_int (fun _ _ => rfl)) (pa_cons (pe_okI (ok_Send_init T) T.c_Sending (hr.mono (by decide)) passL (pa_cons (pe_ok (ok_number_of T) (hr.mono (by decide)) passL (pa_cons (pe_ix ix_list (pv 3) pe_int (fun _ _ => rfl)) pa_nil)) (pa_cons
                (pe_lc (own := [("one", 4)]) (g := gName 4) (tt := tYes) (te := tCall sp_word_of [] E0 (tCons (tVar 4) tNil)) rfl sc_Desk_make.nd (pi_list (pe_slice sl_list (pv 3) (po_some pe_int) po_none)) (blkOk_by (N := ["self", "words", "word", "rest", "one"]) (sc := defScope s_desk_Desk_make) (by decide +kernel)) (fun _ _ _ _ _ => pg_name (i := 4) sc_Desk_make.nd rfl (Or.inl rfl)) (fun _ _ _ _ _ => pts_nil) (fun _ _ _ _ _ => pe_ok (ok_word_of T) (hr.mono (by decide)) passL (pa_cons (pv 4) pa_nil))) pa_nil))) pa_nil)))))) pss_nil)
            pss_never))), ?_⟩
    obtain ⟨p, d, a, nm, b, n, x, rfl, hd, hnl, hx, hl, ha, k1, k2⟩ := h
    have hd0 := hd
    obtain ⟨⟨dx, h1⟩, h2, _, _⟩ := hd0
    have g1 : atI ((tellW b n x).map V.str) ((1 : Nat) : Int) = some (.str n) := atI_nat (by cases b <;> rfl)
    have g0 : atI ((tellW b n x).map V.str) ((0 : Nat) : Int) = some (.str (if b then "club" else "sending")) := atI_nat (by cases b <;> rfl)
    have c0 : decide ((((tellW b n x).map V.str).length : Int) < 2) = false := by cases b <;> rfl
    refine ⟨_, rfl, a, _, rfl, .inl (SqL.of ha), _, _, rfl, rfl, false, congrArg V.bl c0, ?_⟩
    refine ⟨_, rfl, a, _, _, .str n, rfl, rfl, SqL.of ha, g1, n.cps.toList, by rw [tS_eta]; rfl, by show n.cps.toList.length ≤ _; rw [Array.length_toList]; show n.length ≤ _; omega, fun H1 x1 => ⟨_, rfl, ?_⟩⟩
    cases hnm : isNm n.cps.toList with
    | false => exact k2 hnm H1 x1
    | true =>
      have k := k1 hnm
      have ha1 := x1 _ _ ha
      refine ⟨_, rfl, a, _, _, _, rfl, rfl, SqL.of ha1, g0, _, rfl, _, rfl, a, _, rfl, SqL.of ha1, fun R hR => ⟨_, _, rfl, ?_⟩⟩
      cases b with
      | true =>
        have w1 : Ext H1 (upd H1 R (.lst (cutV ((tellW true n x).map V.str) (some 2) none))) := Ext.new hR
        have hR1 : upd H1 R (.lst (cutV ((tellW true n x).map V.str) (some 2) none)) R = some (.lst ([lS x].map V.str)) := upd_same
        revert w1 hR1
        generalize upd H1 R (.lst (cutV ((tellW true n x).map V.str) (some 2) none)) = H2
        intro w1 hR1
        have x2 := x1.trans w1
        refine ⟨_, rfl, rfl, true, rfl, _, rfl, R, [lS x], 0, 8, rfl, hR1, Nat.zero_le _, by show 1 ≤ 8; decide, ?_⟩
        refine ⟨_, rfl, p, dx, _, rfl, x2 _ _ h1, rfl, _, rfl, a, _, _, _, rfl, rfl, SqL.of (x2 _ _ ha), g1, ?_⟩
        refine ⟨_, rfl, R, rfl, ⟨_, SqL.of hR1⟩, fun D hD => lc_all walk_list [V.str (lS x)] rfl hD (big_of (by show 1 ≤ _; decide)) (fun H' z => SqL.of (z _ _ hR1)) (fun i r v Ha H3 Q' hr3 x3 y hq => ?_) (fun H3 x3 hd3 => ?_)⟩
        · obtain ⟨rfl, hv⟩ := y
          have hv : ([V.str (lS x)] : List V)[i]? = some v := hv
          rw [hr3] at hv
          cases hv
          have e : r = .str (lS x) := by
            have := List.mem_of_getElem? hr3
            simpa using this
          subst e
          exact ⟨rfl, _, rfl, x, rfl, fun H' z => hq _ z⟩
        · intro c dxc n1 n2 n3
          have w4 := ext_ins (o := .ins (He.ga K "Club") dxc []) (u := .own c) n1 n2 n3
          refine ⟨c, dxc, D, [[x]], 1, [(0, x, 0)], stx x, rfl, upd_same, w4 _ _ hd3, goodX x, foldX x hx, fun H4 y4 hc4 => ⟨rfl, ?_⟩⟩
          have x14 := x2.trans x3
          have xx : Ext H H4 := Ext1.ext (x14.trans w4) y4 (x14.fresh n1)
          exact ⟨p, d, nm, n, c, true, x, rfl, hd.ext xx, hnl, hc4, hx, fun H5 y5 D5 => k H5 c (xx.e1.trans y5) D5⟩
      | false =>
        have w1 : Ext H1 (upd H1 R (.lst (cutV ((tellW false n x).map V.str) (some 2) none))) := Ext.new hR
        have hR1 : upd H1 R (.lst (cutV ((tellW false n x).map V.str) (some 2) none)) R = some (.lst ((["6", lS x] : List Str).map V.str)) := upd_same
        revert w1 hR1
        generalize upd H1 R (.lst (cutV ((tellW false n x).map V.str) (some 2) none)) = H2
        intro w1 hR1
        have x2 := x1.trans w1
        refine ⟨_, rfl, rfl, false, rfl, ?_⟩
        refine ⟨_, rfl, rfl, true, rfl, _, rfl, R, ["6", lS x], 1, 8, rfl, hR1, by show 1 ≤ 2; decide, by show 2 ≤ 8; decide, ?_⟩
        refine ⟨_, rfl, p, dx, _, rfl, x2 _ _ h1, rfl, _, rfl, a, _, _, _, rfl, rfl, SqL.of (x2 _ _ ha), g1, ?_⟩
        refine ⟨_, rfl, R, _, ((0 : Nat) : Int), .str "6", rfl, rfl, SqL.of hR1, atI_nat rfl, rfl, fun H3 x3 => ?_⟩
        have hR3 := x3 _ _ hR1
        refine ⟨_, rfl, _, rfl, R, _, rfl, SqL.of hR3, fun S hS => ?_⟩
        have w4 : Ext H3 (upd H3 S (.lst (cutV ((["6", lS x] : List Str).map V.str) (some 1) none))) := Ext.new hS
        have hS4 : upd H3 S (.lst (cutV ((["6", lS x] : List Str).map V.str) (some 1) none)) S = some (.lst [V.str (lS x)]) := upd_same
        revert w4 hS4
        generalize upd H3 S (.lst (cutV ((["6", lS x] : List Str).map V.str) (some 1) none)) = H4
        intro w4 hS4
        refine ⟨S, rfl, ⟨_, SqL.of hS4⟩, fun D hD => lc_all walk_list [V.str (lS x)] rfl hD (big_of (by show 1 ≤ _; decide)) (fun H' z => SqL.of (z _ _ hS4)) (fun i r v Ha H5 Q' hr5 x5 y hq => ?_) (fun H5 x5 hd5 => ?_)⟩
        · obtain ⟨rfl, hv⟩ := y
          rw [hr5] at hv
          cases hv
          have e : r = .str (lS x) := by
            have := List.mem_of_getElem? hr5
            simpa using this
          subst e
          exact ⟨rfl, _, rfl, x, rfl, fun H' z => hq _ z⟩
        · intro c dxc n1 n2 n3
          have w6 := ext_ins (o := .ins (He.ga K "Sending") dxc []) (u := .own c) n1 n2 n3
          refine ⟨c, dxc, D, 6, [[x]], rfl, upd_same, w6 _ _ hd5, sendX x, fun H6 y6 hc6 => ⟨rfl, ?_⟩⟩
          have x15 := ((x2.trans x3).trans w4).trans x5
          have xx : Ext H H6 := Ext1.ext (x15.trans w6) y6 (x15.fresh n1)
          exact ⟨p, d, nm, n, c, false, x, rfl, hd.ext xx, hnl, hc6, hx, fun H7 y7 D7 => k H7 c (xx.e1.trans y7) D7⟩
/-! ask_club, ask_sending -/
def sp_Desk_ask_club (K : PySem.W.Frag) : Sp := fun vs H Q E => ∃ (p d a : Addr) (nm : Nm) (n : Str), vs = [.ref p, .ref a] ∧ DeskAt K H p d nm ∧ H a = some (.lst [.str "fewest", .str n]) ∧
  match getA nm n with
  | some (_, (true, x)) => ∀ H', Ext H H' → Q (.str (lS x)) H'
  | _ => ∀ H', Ext H H' → E (.ref (He.ga K "NoRow")) none H'
theorem sc_Desk_ask_club : FnScope ["self", "words", "word", "many", "club", "told", "given", "found"] ["self", "words"] (defScope s_desk_Desk_ask_club) := ⟨rfl, rfl, rfl, by decide +kernel, rfl, by decide +kernel, by decide +kernel⟩
theorem ok_Desk_ask_club (T : Txt K mg) : OkM P w K mg base 9 "Desk" "ask_club" ["self", "words"] (sp_Desk_ask_club K) := by
  refine okM_of T.f_desk_Desk_ask_club sc_Desk_ask_club (fun _ _ _ _ _ _ us hl => match us, hl with | [_, _], _ => rfl) (fun vs H Q E h => ?_) (fun f cdv A outer s H vs Q E hr h => ?_)
  · obtain ⟨p, d, a, nm, n, rfl, _⟩ := h
    rfl
  · refine ⟨_, pss_cons (ps_par (i := 2) (j := 3) rfl sc_Desk_ask_club.nd rfl rfl (by decide) rfl rfl (pa_cons (pe_ix ix_list (pv 1) pe_int (fun _ _ => rfl)) (pa_cons (pe_callB call_len_seq (by rfl) T.b_len PySem.boot_len (pa_cons (pv 1) pa_nil)) pa_nil)) rfl)
      (pss_cons (ps_if (pw_and (pt_cmpR op_eq (pv 2) pe_str (nomark _)) (pw_and1 (pt_cmpR op_eq (pv 3) pe_int (nomark _)))).pt
          (pss_one (ps_ret (pe_ok (ok_all_shown T) (hr.mono (by decide)) passL (pa_cons (pe_ok (ok_fewest T) hr passL (pa_cons (pe_okM (E := E) (pv 0) T.c_Desk (ok_Desk_club T) (hr.mono (by decide)) (passes_call (takes_of rfl rfl rfl rfl) fun _ _ _ _ h => h) (pa_cons (pe_ix ix_list (pv 1) pe_int (fun _ _ => rfl)) pa_nil)) pa_nil)) pa_nil)))) pss_nil)
        pss_never), ?_⟩
    obtain ⟨p, d, a, nm, n, rfl, hd, ha, k⟩ := h
    have hd0 := hd
    obtain ⟨⟨dx, h1⟩, h2, h3, h4⟩ := hd0
    refine ⟨_, rfl, a, _, ((0 : Nat) : Int), _, rfl, rfl, SqL.of ha, atI_nat rfl, _, rfl, a, _, rfl, .inl (SqL.of ha), _, _, rfl, ?_⟩
    refine ⟨_, rfl, rfl, true, rfl, _, rfl, rfl, true, rfl, ?_⟩
    refine ⟨_, rfl, p, dx, _, rfl, h1, rfl, _, rfl, a, _, ((1 : Nat) : Int), .str n, rfl, rfl, SqL.of ha, atI_nat rfl, p, d, nm, n, rfl, hd, ?_⟩
    cases e : getA nm n with
    | none =>
      rw [e] at k
      exact k _ Ext.rfl'
    | some ab =>
      obtain ⟨t, b, x⟩ := ab
      rw [e] at k
      cases b with
      | false => exact k _ Ext.rfl'
      | true =>
        have hlo := h4 _ (getA_mem e)
        exact fun wb hwb => ⟨wb, 1, stx x, [(0, x, 0)], [[x]], rfl, hwb, fewX x hlo, fun H1 D x1 _ hD => ⟨D, x, rfl, hD, fun H2 x2 => k _ (x1.trans x2)⟩⟩
def sp_Desk_ask_sending (K : PySem.W.Frag) : Sp := fun vs H Q E => ∃ (p d a : Addr) (nm : Nm) (n : Str), vs = [.ref p, .ref a] ∧ DeskAt K H p d nm ∧ H a = some (.lst ((["sent", n, "a"] : List Str).map V.str)) ∧
  match getA nm n with
  | some (_, (false, x)) => ∀ H', Ext H H' → Q (.str (lS x)) H'
  | _ => ∀ H', Ext H H' → E (.ref (He.ga K "NoRow")) none H'
theorem sc_Desk_ask_sending : FnScope ["self", "words", "sending", "found", "told"] ["self", "words"] (defScope s_desk_Desk_ask_sending) := ⟨rfl, rfl, rfl, by decide +kernel, rfl, by decide +kernel, by decide +kernel⟩
theorem ok_Desk_ask_sending (T : Txt K mg) : OkM P w K mg base 5 "Desk" "ask_sending" ["self", "words"] (sp_Desk_ask_sending K) := by
  refine okM_of T.f_desk_Desk_ask_sending sc_Desk_ask_sending (fun _ _ _ _ _ _ us hl => match us, hl with | [_, _], _ => rfl) (fun vs H Q E h => ?_) (fun f cdv A outer s H vs Q E hr h => ?_)
  · obtain ⟨p, d, a, nm, n, rfl, _⟩ := h
    rfl
  · refine ⟨_, pss_cons (ps_expr (pe_ok (ok_need_many T) (hr.mono (by decide)) passL (pa_cons (pv 1) (pa_cons pe_int (pa_cons pe_int pa_nil)))))
      (pss_cons (ps_set (i := 2) sc_Desk_ask_sending.nd rfl (Or.inl rfl) (pe_okM (E := E) (pv 0) T.c_Desk (ok_Desk_sending T) (hr.mono (by decide)) (passes_call (takes_of rfl rfl rfl rfl) fun _ _ _ _ h => h) (pa_cons (pe_ix ix_list (pv 1) pe_int (fun _ _ => rfl)) pa_nil)))
        (pss_cons (ps_if (pt_cmpR op_eq (pe_ix ix_list (pv 1) pe_int (fun _ _ => rfl)) pe_str (nomark _)) pss_never pss_nil)
          (pss_cons (ps_expr (pe_ok (ok_need_many T) (hr.mono (by decide)) passL (pa_cons (pv 1) (pa_cons pe_int (pa_cons pe_int pa_nil)))))
            (pss_cons (ps_set (i := 4) sc_Desk_ask_sending.nd rfl (Or.inl rfl) (pe_ok (ok_word_of T) (hr.mono (by decide)) passL (pa_cons (pe_ix ix_list (pv 1) pe_int (fun _ _ => rfl)) pa_nil)))
              (pss_cons (ps_if (pt_cmpR op_eq (pe_ix ix_list (pv 1) pe_int (fun _ _ => rfl)) pe_str (nomark _)) (pss_one (ps_ret (pe_ok (ok_shown T) (hr.mono (by decide)) passL (pa_cons (pe_okM (pv 2) T.c_Sending (ok_Send_sent T) hr passL (pa_cons (pv 4) pa_nil)) pa_nil)))) pss_nil)
                pss_never))))), ?_⟩
    obtain ⟨p, d, a, nm, n, rfl, hd, ha, k⟩ := h
    have hd0 := hd
    obtain ⟨⟨dx, h1⟩, h2, h3, h4⟩ := hd0
    refine ⟨_, rfl, a, ["sent", n, "a"], 2, 3, rfl, ha, by show 2 ≤ 3; decide, by show 3 ≤ 3; decide, ?_⟩
    refine ⟨_, rfl, p, dx, _, rfl, h1, rfl, _, rfl, a, _, ((1 : Nat) : Int), .str n, rfl, rfl, SqL.of ha, atI_nat rfl, p, d, nm, n, rfl, hd, ?_⟩
    cases e : getA nm n with
    | none =>
      rw [e] at k
      exact k _ Ext.rfl'
    | some ab =>
      obtain ⟨t, b, x⟩ := ab
      rw [e] at k
      cases b with
      | true => exact k _ Ext.rfl'
      | false =>
        intro hs
        have hs0 := hs
        obtain ⟨dxs, ts, s1, s2⟩ := hs0
        refine ⟨_, rfl, a, _, ((0 : Nat) : Int), _, rfl, rfl, SqL.of ha, atI_nat rfl, rfl, false, rfl, ?_⟩
        refine ⟨_, rfl, a, ["sent", n, "a"], 3, 3, rfl, ha, by show 3 ≤ 3; decide, by show 3 ≤ 3; decide, ?_⟩
        refine ⟨_, rfl, a, _, ((2 : Nat) : Int), .str (lS 0), rfl, rfl, SqL.of ha, atI_nat rfl, 0, rfl, fun H1 x1 => ?_⟩
        refine ⟨_, rfl, a, _, ((0 : Nat) : Int), _, rfl, rfl, SqL.of (x1 _ _ ha), atI_nat rfl, rfl, true, rfl, ?_⟩
        refine ⟨_, rfl, t, dxs, _, rfl, x1 _ _ s1, rfl, _, rfl, t, 6, [[x]], [0], rfl, hs.ext x1, (fun u hu => by rw [List.mem_singleton] at hu; subst hu; show 1 ≤ 60; decide), by decide, rfl, rfl, fun H2 x2 => ⟨x, ?_, k _ (x1.trans x2)⟩⟩
        rw [sentX]
        rfl
end
end BW


set_option Elab.async false
set_option linter.all false
set_option maxRecDepth 100000
set_option maxHeartbeats 4000000
namespace BW
open PySem PySem.Spec PyProof.Rows L2 BwR BwE BwD BwS
section
variable {P : Program} {w : World} {K : PySem.W.Frag} {mg : Str → Option Value} {base : Heap}
def noE (s : Str) : Bool := decide (s ≠ ("" : Str))
theorem str_flt (parts : List Str) : (List.range parts.length).filterMap (fun i => parts[i]?.bind fun s => if noE s = true then some (V.str s) else none) = (parts.filter noE).map V.str := by
  refine (range_flt (fun s : Str => if noE s = true then some (V.str s) else none) parts).trans ?_
  induction parts with
  | nil => rfl
  | cons p parts ih =>
    rw [List.filterMap_cons, List.filter_cons]
    cases h : noE p with
    | true => simp [ih]
    | false => simpa using ih
theorem ne_E (s : Str) : (!decide (V.str s = V.str "")) = noE s := by
  unfold noE
  by_cases h : s = ("" : Str)
  · subst h
    rfl
  · have h2 : ¬ V.str s = V.str "" := fun e => h (by injection e)
    rw [decide_eq_false h2, decide_eq_true h]
    rfl
/-- what a row comes to -/
def SayQ (K : PySem.W.Frag) (p d : Addr) (nm : Nm) (ws : List Str) (H : Hp) (Q : VK) (E : XK) : Prop :=
  (∃ b n x, ws = tellW b n x ∧ lo x = true ∧ n.length ≤ 1000000 ∧ (isNm n.cps.toList = true → ∀ H' t, Ext1 d H H' → DeskAt K H' p d (putA nm n (t, (b, x))) → Q (.str "ok") H') ∧ (isNm n.cps.toList = false → ∀ H', Ext H H' → E (.ref (He.ga K "NoRow")) none H')) ∨
  (∃ n, ws = (["fewest", n] : List Str) ∧ match getA nm n with
    | some (_, (true, x)) => ∀ H', Ext H H' → Q (.str (lS x)) H'
    | _ => ∀ H', Ext H H' → E (.ref (He.ga K "NoRow")) none H') ∨
  (∃ n, ws = (["sent", n, "a"] : List Str) ∧ match getA nm n with
    | some (_, (false, x)) => ∀ H', Ext H H' → Q (.str (lS x)) H'
    | _ => ∀ H', Ext H H' → E (.ref (He.ga K "NoRow")) none H')
def sp_Desk_say (K : PySem.W.Frag) : Sp := fun vs H Q E => ∃ (p d : Addr) (nm : Nm) (z : Str), vs = [.ref p, .str z] ∧ DeskAt K H p d nm ∧ nm.length ≤ 1000000 ∧ z.length ≤ 1000000 ∧ (Txt.split z " ").length ≤ 1000000 ∧ (∀ s ∈ (Txt.split z " ").filter noE, (PyData.str s).canLay0 = true) ∧
  SayQ K p d nm ((Txt.split z " ").filter noE) H Q E
theorem sc_Desk_say : FnScope ["self", "row", "words", "word"] ["self", "row"] (defScope s_desk_Desk_say) := ⟨rfl, rfl, rfl, by decide +kernel, rfl, by decide +kernel, by decide +kernel⟩
theorem ok_Desk_say (T : Txt K mg) : OkM P w K mg base 12 "Desk" "say" ["self", "row"] (sp_Desk_say K) := by
  refine okM_of T.f_desk_Desk_say sc_Desk_say (fun _ _ _ _ _ _ us hl => match us, hl with | [_, _], _ => rfl) (fun vs H Q E h => ?_) (fun f cdv A outer s H vs Q E hr h => ?_)
  · obtain ⟨p, d, nm, z, rfl, _⟩ := h
    rfl
  · have px : XP (cxOf (L2.CX P w) P w K mg base ["self", "row", "words", "word"] "Desk.say" (defScope s_desk_Desk_say) f cdv A outer s H E) E := passes_call (takes_of rfl rfl rfl rfl) fun _ _ _ _ h => h
    refine ⟨_, pss_cons (ps_if (pt_not (pt_val (pe_callB call_isi (by rfl) T.b_isinstance (by decide +kernel) (pa_cons (pv 1) (pa_cons (pe_bltn (v := .ty "str") (u := .type "str") (by rfl) T.b_str rfl rfl) pa_nil))))) pss_never pss_nil)
      (pss_cons (ps_setLc (i := 2) (own := [("word", 3)]) (g := gName 3) (tt := tTest (tOp rNe (tVar 3) (tC (.str "")))) (te := tVar 3) rfl sc_Desk_say.nd rfl rfl (sw_true rfl rfl rfl (by decide +kernel)) (pi_list (pe_split (pv 1) pe_str)) (blkOk_by (N := ["self", "row", "words", "word"]) (sc := defScope s_desk_Desk_say) (by decide +kernel))
          (fun _ _ _ _ _ => pg_name (i := 3) sc_Desk_say.nd rfl (Or.inl rfl)) (fun _ _ _ _ _ => pts_one (pt_cmpR op_ne (pv 3) pe_str (nomark _))) (fun _ _ _ _ _ => pv 3))
        (pss_cons (ps_if (pt_cmpR (op_eqD hr.units) (pv 2) (pe_lst pa_nil) (nomark _)) pss_never pss_nil)
          (pss_cons (ps_if (pt_cmpR op_in_seq (pe_ix ix_list (pv 2) pe_int (fun _ _ => rfl)) (pe_tup (pa_cons pe_str (pa_cons pe_str (pa_cons pe_str (pa_cons pe_str (pa_cons pe_str (pa_cons pe_str pa_nil))))))) rfl) (pss_one (ps_ret (pe_okM (E := E) (pv 0) T.c_Desk (ok_Desk_make T) hr px (pa_cons (pv 2) pa_nil)))) pss_nil)
            (pss_cons (ps_if (pt_cmpR op_in_seq (pe_ix ix_list (pv 2) pe_int (fun _ _ => rfl)) (pe_tup (pa_cons pe_str (pa_cons pe_str (pa_cons pe_str pa_nil)))) rfl) (pss_one (ps_ret (pe_okM (E := E) (pv 0) T.c_Desk (ok_Desk_ask_sending T) (hr.mono (by decide)) px (pa_cons (pv 2) pa_nil)))) pss_nil)
              (pss_cons (ps_if (pt_cmpR op_in_seq (pe_ix ix_list (pv 2) pe_int (fun _ _ => rfl)) (pe_tup (pa_cons pe_str (pa_cons pe_str (pa_cons pe_str pa_nil)))) rfl) pss_never pss_nil)
                (pss_cons (ps_if (pt_cmpR op_in_seq (pe_ix ix_list (pv 2) pe_int (fun _ _ => rfl)) (pe_tup (pa_cons pe_str (pa_cons pe_str (pa_cons pe_str (pa_cons pe_str pa_nil))))) rfl) pss_never pss_nil)
                  (pss_one (ps_ret (pe_okM (E := E) (pv 0) T.c_Desk (ok_Desk_ask_club T) (hr.mono (by decide)) px (pa_cons (pv 2) pa_nil)))))))))), ?_⟩
    obtain ⟨p, d, nm, z, rfl, hd, hnl, hz, hpl, hlay, hq⟩ := h
    refine ⟨_, rfl, _, _, _, _, true, rfl, .ty "str", .base (.str _), kit_ty (by decide +kernel), true, rfl, ?_⟩
    generalize hws : (Txt.split z " ").filter noE = ws at hlay hq
    have hne : ws ≠ [] := fun e => by
      subst e
      rcases hq with ⟨b, n, x, h1, _⟩ | ⟨n, h1, _⟩ | ⟨n, h1, _⟩
      · cases b <;> cases h1
      · cases h1
      · cases h1
    refine ⟨_, rfl, ⟨_, rfl⟩, z, " ", rfl, rfl, rfl, big_of (by omega), fun S hS => ⟨S, rfl, ⟨_, SqL.of upd_same⟩, fun W hW => ?_⟩⟩
    have xs : Ext H (upd H S (.lst ((Txt.split z " ").map V.str))) := Ext.new hS
    have hS1 : upd H S (.lst ((Txt.split z " ").map V.str)) S = some (.lst ((Txt.split z " ").map V.str)) := upd_same
    revert xs hS1 hW
    generalize upd H S (.lst ((Txt.split z " ").map V.str)) = H1
    intro hW xs hS1
    refine lc_flt walk_list (fun i => (Txt.split z " ")[i]?.bind fun s => if noE s = true then some (.str s) else none) hW (by rw [List.length_map]; exact big_of (by omega)) (fun H' x => SqL.of (x _ _ hS1)) (fun i v Ha H2 Q' N hi x2 y hq' hn' => ?_) (fun H2 x2 hW2 => ?_)
    · obtain ⟨rfl, hv⟩ := y
      rw [List.getElem?_map] at hv
      obtain ⟨s1, hs1, rfl⟩ := Option.map_eq_some_iff.mp hv
      rw [hs1] at hq' hn'
      refine ⟨rfl, _, rfl, rfl, _, rfl, ?_⟩
      rw [ne_E]
      cases e : noE s1 with
      | true => exact ⟨_, rfl, hq' _ _ (by show (if noE s1 = true then _ else _) = _; rw [if_pos e]) Ext.rfl'⟩
      | false => exact hn' _ (by show (if noE s1 = true then _ else _) = none; rw [if_neg (by rw [e]; exact Bool.false_ne_true)]) Ext.rfl'
    · rw [List.length_map, str_flt, hws] at hW2
      have x02 := xs.trans x2
      refine ⟨_, rfl, Nat.zero_le _, fun e he => ⟨.list (ws.map PyData.str), .list [], .lst (SqL.of ((Ext.new he) _ _ hW2)) (dp_map fun s _ => .str s), .lst (SqL.of upd_same) .nil, shaped_list (fun q hq => by
        obtain ⟨s, hs, rfl⟩ := List.mem_map.mp hq
        exact ⟨hlay s hs, Nat.zero_le _⟩), rfl, false, ?_, ?_⟩⟩
      · rw [eqv_nil]
        cases ws with
        | nil => exact absurd rfl hne
        | cons _ _ => rfl
      have x3 := x02.trans (Ext.new (o := .lst []) he)
      have hW3 := (Ext.new (o := .lst []) he) _ _ hW2
      revert x3 hW3
      generalize upd H2 e (.lst []) = H3
      intro x3 hW3
      have hd3 := hd.ext x3
      obtain ⟨⟨dx, h1⟩, h2, _, _⟩ := id hd3
      rcases hq with ⟨b, n, x, rfl, hx, hnl2, k1, k2⟩ | ⟨n, rfl, k⟩ | ⟨n, rfl, k⟩
      · have g0 : atI ((tellW b n x).map V.str) ((0 : Nat) : Int) = some (.str (if b then "club" else "sending")) := atI_nat (by cases b <;> rfl)
        refine ⟨_, rfl, W, _, ((0 : Nat) : Int), _, rfl, rfl, SqL.of hW3, g0, big_of (by show 6 ≤ _; decide), fun t ht => ⟨t, _, rfl, .inr (SqT.of upd_same), rfl, rfl, true, by cases b <;> rfl, ?_⟩⟩
        have x4 := Ext.new (o := .tup [.str "club", .str "joined", .str "common", .str "moved", .str "sending", .str "then"]) ht
        refine ⟨_, rfl, p, dx, _, rfl, x4 _ _ h1, rfl, _, rfl, p, d, W, nm, b, n, x, rfl, hd3.ext x4, hnl, hx, hnl2, x4 _ _ hW3, fun h H' tt y D => k1 h H' tt ((x3.trans x4).e1.trans y) D, fun h H' y => k2 h H' ((x3.trans x4).trans y)⟩
      · have g0 : atI ((["fewest", n] : List Str).map V.str) ((0 : Nat) : Int) = some (.str "fewest") := atI_nat rfl
        refine ⟨_, rfl, W, _, ((0 : Nat) : Int), _, rfl, rfl, SqL.of hW3, g0, big_of (by show 6 ≤ _; decide), fun t ht => ⟨t, _, rfl, .inr (SqT.of upd_same), rfl, rfl, false, rfl, ?_⟩⟩
        have x4 := x3.trans (Ext.new (o := .tup [.str "club", .str "joined", .str "common", .str "moved", .str "sending", .str "then"]) ht)
        have hW4 := (Ext.new (o := .tup [.str "club", .str "joined", .str "common", .str "moved", .str "sending", .str "then"]) ht) _ _ hW3
        refine ⟨_, rfl, W, _, ((0 : Nat) : Int), _, rfl, rfl, SqL.of hW4, g0, sz3, fun t2 ht2 => ⟨t2, _, rfl, .inr (SqT.of upd_same), rfl, rfl, false, rfl, ?_⟩⟩
        have x5 := x4.trans (Ext.new (o := .tup [.str "sent", .str "undone", .str "from"]) ht2)
        have hW5 := (Ext.new (o := .tup [.str "sent", .str "undone", .str "from"]) ht2) _ _ hW4
        refine ⟨_, rfl, W, _, ((0 : Nat) : Int), _, rfl, rfl, SqL.of hW5, g0, sz3, fun t3 ht3 => ⟨t3, _, rfl, .inr (SqT.of upd_same), rfl, rfl, false, rfl, ?_⟩⟩
        have x6 := x5.trans (Ext.new (o := .tup [.str "product", .str "root", .str "mover"]) ht3)
        have hW6 := (Ext.new (o := .tup [.str "product", .str "root", .str "mover"]) ht3) _ _ hW5
        refine ⟨_, rfl, W, _, ((0 : Nat) : Int), _, rfl, rfl, SqL.of hW6, g0, big_of (by show 4 ≤ _; decide), fun t4 ht4 => ⟨t4, _, rfl, .inr (SqT.of upd_same), rfl, rfl, false, rfl, ?_⟩⟩
        have x7 := x6.trans (Ext.new (o := .tup [.str "in", .str "same", .str "within", .str "keeps"]) ht4)
        have hW7 := (Ext.new (o := .tup [.str "in", .str "same", .str "within", .str "keeps"]) ht4) _ _ hW6
        have hd7 := hd.ext x7
        obtain ⟨⟨dx7, h17⟩, _⟩ := id hd7
        refine ⟨_, rfl, p, dx7, _, rfl, h17, rfl, _, rfl, p, d, W, nm, n, rfl, hd7, hW7, ?_⟩
        split
        · rename_i ab x e
          rw [e] at k
          exact fun H' y => k H' (x7.trans y)
        · rename_i hne
          have k' : ∀ H', Ext H H' → E (.ref (He.ga K "NoRow")) none H' := by
            split at k
            · rename_i ab x e
              exact absurd e (hne _ _)
            · exact k
          exact fun H' y => k' H' (x7.trans y)
      · have g0 : atI ((["sent", n, "a"] : List Str).map V.str) ((0 : Nat) : Int) = some (.str "sent") := atI_nat rfl
        refine ⟨_, rfl, W, _, ((0 : Nat) : Int), _, rfl, rfl, SqL.of hW3, g0, big_of (by show 6 ≤ _; decide), fun t ht => ⟨t, _, rfl, .inr (SqT.of upd_same), rfl, rfl, false, rfl, ?_⟩⟩
        have x4 := x3.trans (Ext.new (o := .tup [.str "club", .str "joined", .str "common", .str "moved", .str "sending", .str "then"]) ht)
        have hW4 := (Ext.new (o := .tup [.str "club", .str "joined", .str "common", .str "moved", .str "sending", .str "then"]) ht) _ _ hW3
        refine ⟨_, rfl, W, _, ((0 : Nat) : Int), _, rfl, rfl, SqL.of hW4, g0, sz3, fun t2 ht2 => ⟨t2, _, rfl, .inr (SqT.of upd_same), rfl, rfl, true, rfl, ?_⟩⟩
        have x5 := x4.trans (Ext.new (o := .tup [.str "sent", .str "undone", .str "from"]) ht2)
        have hW5 := (Ext.new (o := .tup [.str "sent", .str "undone", .str "from"]) ht2) _ _ hW4
        have hd5 := hd.ext x5
        obtain ⟨⟨dx5, h15⟩, _⟩ := id hd5
        refine ⟨_, rfl, p, dx5, _, rfl, h15, rfl, _, rfl, p, d, W, nm, n, rfl, hd5, hW5, ?_⟩
        split
        · rename_i ab x e
          rw [e] at k
          exact fun H' y => k H' (x5.trans y)
        · rename_i hne
          have k' : ∀ H', Ext H H' → E (.ref (He.ga K "NoRow")) none H' := by
            split at k
            · rename_i ab x e
              exact absurd e (hne _ _)
            · exact k
          exact fun H' y => k' H' (x5.trans y)
end
end BW


set_option Elab.async false
set_option linter.all false
set_option maxRecDepth 100000
set_option maxHeartbeats 4000000
namespace BW
open PySem PySem.Spec PyProof.Rows L2 BwR BwE BwD BwS
section
variable {P : Program} {w : World} {K : PySem.W.Frag} {mg : Str → Option Value} {base : Heap}
/-! drawn numbers -/
def sp_mix : Sp := fun vs H Q _ => ∃ n k : Int, vs = [.int n, .int k] ∧ ∀ i : Nat, i < 2147483629 → Q (vN i) H
theorem sc_mix : FnScope ["_law_number", "_law_k", "_law_mixed"] ["_law_number", "_law_k"] (defScope s_law__law_mix) := ⟨rfl, rfl, rfl, by decide +kernel, rfl, by decide +kernel, by decide +kernel⟩
theorem mod_N {x : Int} {m : Nat} (h : 0 < m) : ∃ i : Nat, i < m ∧ x % (m : Int) = (i : Int) := by
  have h1 := Int.emod_nonneg x (b := (m : Int)) (by omega)
  have h2 := Int.emod_lt_of_pos x (b := (m : Int)) (by omega)
  exact ⟨(x % (m : Int)).toNat, by omega, by omega⟩
theorem ok_mix (T : Txt K mg) : Ok P w K mg base 1 (n_law__law_mix) ["_law_number", "_law_k"] sp_mix := by
  refine ok_of T.f_law__law_mix sc_mix (fun _ _ _ _ _ _ us hl => match us, hl with | [_, _], _ => rfl) (fun vs H Q E h => ?_) (fun f cdv A outer s H vs Q E hr h => ?_)
  · obtain ⟨n, k, rfl, _⟩ := h
    rfl
  · refine ⟨_, pss_cons (ps_set (i := 2) sc_mix.nd rfl (Or.inl rfl) (pe_op op_mod (pe_op op_add (pe_op op_add (pe_op op_mul (pv 0) pe_int) (pe_op op_mul (pv 1) pe_int)) pe_int) pe_int))
      (pss_one (ps_ret (pe_op op_mod (pe_op op_add (pe_op op_add (pe_op op_mul (pv 2) (pv 2)) (pe_op op_mul pe_int (pv 2))) (pv 1)) pe_int))), ?_⟩
    obtain ⟨n, k, rfl, kk⟩ := h
    refine ⟨_, rfl, _, _, rfl, rfl, .inr ⟨by decide, by decide⟩, _, rfl, _, _, rfl, rfl, .inr ⟨by decide, by decide⟩, _, _, rfl, rfl, _, _, rfl, rfl, _, _, rfl, rfl, (by show (0 : Int) < 2147483647; decide), ?_⟩
    obtain ⟨i, hi, e⟩ := mod_N (x := n * 48271 + k * 104729 + 11) (m := 2147483647) (by decide)
    have e : (n * 48271 + k * 104729 + 11) % 2147483647 = (i : Int) := e
    dsimp only
    rw [e]
    refine ⟨_, rfl, _, rfl, _, _, rfl, rfl, .inl ⟨by omega, by omega⟩, _, rfl, _, _, rfl, rfl, .inl ⟨by decide, by decide⟩, _, _, rfl, rfl, _, rfl, _, _, rfl, rfl, _, _, rfl, rfl, (by show (0 : Int) < 2147483629; decide), ?_⟩
    obtain ⟨j, hj, e2⟩ := mod_N (x := (i : Int) * i + 48271 * i + k) (m := 2147483629) (by decide)
    have e2 : ((i : Int) * i + 48271 * i + k) % 2147483629 = (j : Int) := e2
    have := kk j hj
    show Q (.int (((i : Int) * i + 48271 * i + k) % 2147483629)) H
    rw [e2]
    exact this
/-! names -/
def NmOk (l : List Nat) : Prop := l ≠ [] ∧ l.length ≤ 40 ∧ ∀ c ∈ l, c ≠ 32 ∧ c < 128
def smc (c : Nat) : Bool := decide (97 ≤ c ∧ c ≤ 122)
def sp_lis_name : Sp := fun vs H Q _ => ∃ l, vs = [.str (tS l)] ∧ NmOk l ∧ ∀ H', Ext H H' → Q (.bl (isNm l)) H'
theorem sc_lis_name : FnScope ["_law_name_here", "_law_sign"] ["_law_name_here"] (defScope s_law__law_is_name) := ⟨rfl, rfl, rfl, by decide +kernel, rfl, by decide +kernel, by decide +kernel⟩
theorem chr_flt (l : List Nat) : (List.range l.length).filterMap (fun i => l[i]?.bind fun c => if (!smc c) = true then some (V.str ⟨#[c]⟩) else none) = (l.filter fun c => !smc c).map fun c => V.str ⟨#[c]⟩ := by
  refine (range_flt (fun c : Nat => if (!smc c) = true then some (V.str ⟨#[c]⟩) else none) l).trans ?_
  induction l with
  | nil => rfl
  | cons p l ih =>
    rw [List.filterMap_cons, List.filter_cons]
    cases h : smc p with
    | true => simpa using ih
    | false => exact congrArg (V.str ⟨#[p]⟩ :: ·) ih
theorem ok_lis_name (T : Txt K mg) : Ok P w K mg base 1 (n_law__law_is_name) ["_law_name_here"] sp_lis_name := by
  refine ok_of T.f_law__law_is_name sc_lis_name (fun _ _ _ _ _ _ us hl => match us, hl with | [_], _ => rfl) (fun vs H Q E h => ?_) (fun f cdv A outer s H vs Q E hr h => ?_)
  · obtain ⟨l, rfl, _⟩ := h
    rfl
  · refine ⟨_, pss_one (ps_ret (pe_and (pe_chain op_lt op_lt pe_int (pe_callB call_len_str (by rfl) T.b_len PySem.boot_len (pa_cons (pv 0) pa_nil)) pe_int) (pe_one (pe_cmpR (op_eqD hr.units)
      (pe_lc (own := [("_law_sign", 1)]) (g := gName 1) (tt := tTest (tOp (fun x y H Q => ∃ (c : Nat) (z : Str), x = .str ⟨#[c]⟩ ∧ y = .str z ∧ Q (.bl (!decide (c ∈ z.cps.toList))) H) (tVar 1) (tC (.str smS)))) (te := tVar 1) rfl sc_lis_name.nd (pi_str (pv 0)) (blkOk_by (N := ["_law_name_here", "_law_sign"]) (sc := defScope s_law__law_is_name) (by decide +kernel)) (fun _ _ _ _ _ => pg_name (i := 1) sc_lis_name.nd rfl (Or.inl rfl)) (fun _ _ _ _ _ => pts_one (pt_cmpR op_notIn_sign (pv 1) pe_str rfl)) (fun _ _ _ _ _ => pv 1))
      (pe_lst pa_nil) (nomark _))))), ?_⟩
    obtain ⟨l, rfl, ⟨n0, n1, n2⟩, k⟩ := h
    have hl2 : (tS l).length ≤ sizeLine := by rw [tS_len]; exact big_of (by omega)
    have hpos : 0 < l.length := List.length_pos_iff.mpr n0
    refine ⟨_, rfl, tS l, rfl, hl2, 0, _, rfl, rfl, true, ?_, _, _, rfl, rfl, decide ((l.length : Int) < 9), rfl, ?_⟩
    · show V.bl (decide ((0 : Int) < ((tS l).length : Int))) = V.bl true
      rw [tS_len, decide_eq_true (by omega)]
    by_cases h9 : (l.length : Int) < 9
    · rw [decide_eq_true h9]
      refine ⟨_, rfl, tS l, rfl, fun D hD => lc_flt walk_str (fun i => l[i]?.bind fun c => if (!smc c) = true then some (.str ⟨#[c]⟩) else none) hD (by simp; exact big_of (by omega)) (fun _ _ => True.intro) (fun i x Ha H1 Q' N hi x1 y hq hn => ?_) (fun H1 x1 hd => ?_)⟩
      · obtain ⟨rfl, c, hc, rfl⟩ := y
        have hc' : l[i]? = some c := by simpa using hc
        rw [hc'] at hq hn
        refine ⟨rfl, _, rfl, c, smS, rfl, rfl, _, rfl, ?_⟩
        rw [in_sm]
        show if (!smc c) = true then _ else _
        cases e : smc c with
        | true => exact hn _ (by show (if (!smc c) = true then _ else _) = none; rw [if_neg (by rw [e]; exact Bool.false_ne_true)]) Ext.rfl'
        | false => exact ⟨_, rfl, hq _ _ (by show (if (!smc c) = true then _ else _) = _; rw [if_pos (by rw [e]; rfl)]) Ext.rfl'⟩
      · have hsz : (tS l).cps.size = l.length := by simp
        rw [hsz, chr_flt] at hd
        refine ⟨Nat.zero_le _, fun e he => ⟨.list ((l.filter fun c => !smc c).map fun c => PyData.str ⟨#[c]⟩), .list [], .lst (SqL.of ((Ext.new he) _ _ hd)) (dp_map fun c _ => .str _), .lst (SqL.of upd_same) .nil, shaped_list (fun q hq => by
          obtain ⟨c, hc, rfl⟩ := List.mem_map.mp hq
          have h2 := (n2 c (List.mem_filter.mp hc).1).2
          refine ⟨?_, Nat.zero_le _⟩
          show PyData.strOk ⟨#[c]⟩ = true
          unfold PyData.strOk
          simp
          omega), rfl, ?_⟩⟩
        have e1 : PyData.eqv (.list ((l.filter fun c => !smc c).map fun c => PyData.str ⟨#[c]⟩)) (.list []) = isNm l := by
          rw [eqv_nil]
          unfold isNm
          rw [decide_eq_true (show 1 ≤ l.length ∧ l.length ≤ 8 by omega), Bool.true_and]
          have e2 : (l.all fun c => decide (97 ≤ c ∧ c ≤ 122)) = l.all smc := rfl
          rw [e2, Bool.eq_iff_iff]
          simp [List.isEmpty_iff, List.filter_eq_nil_iff, List.all_eq_true]
        show Q (.bl (PyData.eqv _ _)) _
        rw [e1]
        exact k _ (x1.trans (Ext.new he))
    · rw [decide_eq_false h9]
      have e : isNm l = false := by
        unfold isNm
        rw [decide_eq_false (show ¬ (1 ≤ l.length ∧ l.length ≤ 8) by omega)]
        rfl
      rw [e] at k
      exact k _ Ext.rfl'
/-! what a desk says -/
def sp_said (K : PySem.W.Frag) : Sp := fun vs H Q _ => ∃ (p d : Addr) (nm : Nm) (z : Str), vs = [.ref p, .str z] ∧ DeskAt K H p d nm ∧ nm.length ≤ 1000000 ∧ z.length ≤ 1000000 ∧ (Txt.split z " ").length ≤ 1000000 ∧ (∀ s ∈ (Txt.split z " ").filter noE, (PyData.str s).canLay0 = true) ∧
  SayQ K p d nm ((Txt.split z " ").filter noE) H (fun v H' => ∃ s, v = .str s ∧ Q (.str s) H') (fun _ _ H' => ∀ H'', Ext H' H'' → Q (.str "norow") H'')
theorem sc_said : FnScope ["_law_desk", "_law_row", "_law_found", "_law_error", "e"] ["_law_desk", "_law_row"] (defScope s_law__law_said) := ⟨rfl, rfl, rfl, by decide +kernel, rfl, by decide +kernel, by decide +kernel⟩
theorem SayQ.imp {p d : Addr} {nm : Nm} {ws : List Str} {H : Hp} {Q Q' : VK} {E E' : XK} (h : SayQ K p d nm ws H Q E) (hq : ∀ v H', Q v H' → Q' v H') (he : ∀ H', E (.ref (He.ga K "NoRow")) none H' → E' (.ref (He.ga K "NoRow")) none H') : SayQ K p d nm ws H Q' E' := by
  rcases h with ⟨b, n, x, h1, h2, h3, k1, k2⟩ | ⟨n, h1, k⟩ | ⟨n, h1, k⟩
  · exact .inl ⟨b, n, x, h1, h2, h3, fun a H' t y D => hq _ _ (k1 a H' t y D), fun a H' y => he _ (k2 a H' y)⟩
  · refine .inr (.inl ⟨n, h1, ?_⟩)
    split
    · rename_i ab x e
      rw [e] at k
      exact fun H' y => hq _ _ (k H' y)
    · rename_i hne
      split at k
      · rename_i ab x e
        exact absurd e (hne _ _)
      · exact fun H' y => he _ (k H' y)
  · refine .inr (.inr ⟨n, h1, ?_⟩)
    split
    · rename_i ab x e
      rw [e] at k
      exact fun H' y => hq _ _ (k H' y)
    · rename_i hne
      split at k
      · rename_i ab x e
        exact absurd e (hne _ _)
      · exact fun H' y => he _ (k H' y)
theorem ok_said (T : Txt K mg) : Ok P w K mg base 13 (n_law__law_said) ["_law_desk", "_law_row"] (sp_said K) := by
  refine ok_of T.f_law__law_said sc_said (fun _ _ _ _ _ _ us hl => match us, hl with | [_, _], _ => rfl) (fun vs H Q E h => ?_) (fun f cdv A outer s H vs Q E hr h => ?_)
  · obtain ⟨p, d, nm, z, rfl, _⟩ := h
    rfl
  · refine ⟨_, pss_cons (ps_set (i := 2) sc_said.nd rfl (Or.inl rfl) pe_non) (pss_cons (ps_set (i := 3) sc_said.nd rfl (Or.inl rfl) pe_non)
      (pss_cons (ps_tryT (i := 4) (Wo := fun _ _ _ _ => False) (tb := fun W => tAsg (tMethAt (He.ga K "Desk") "say" (sp_Desk_say K) (WE W) (tVar 0) (tCons (tVar 1) tNil)) (gName 2)) (tu := fun _ _ _ => tAsg (tVar 4) (gName 3)) rfl rfl sc_said.nd rfl rfl ⟨rfl, by decide, .inl (exc_glo T.e_WordError)⟩ rfl takes0
          (fun W pn xe tk _ => by exact pss_one (ps_set (i := 2) sc_said.nd rfl (Or.inl rfl) (pe_mAt (pv 0) T.c_Desk (ok_Desk_say T) hr (fun σ => passAt tk σ) (pa_cons (pv 1) pa_nil))))
          (fun a q d pn => by exact pss_one (ps_set (i := 3) sc_said.nd rfl (Or.inl rfl) (pv 4))))
        (pss_cons (ps_if (pt_cmp (pc_isN (pv 3))) (pss_one (ps_ret (pv 2))) pss_nil)
          (pss_one (ps_ret (pe_ifExp (pt_val (pe_callB call_isZ (by rfl) T.b_isinstance (by decide +kernel) (pa_cons (pv 3) (pa_cons (pe_glob (v := V.ref (He.ga K "NoRow")) (by rfl) (exc_glo T.e_NoRow) rfl) pa_nil)))) pe_str pe_str)))))), ?_⟩
    obtain ⟨p, d, nm, z, rfl, hd, hnl, hz, hpl, hlay, hq⟩ := h
    have hd0 := hd
    obtain ⟨⟨dx, h1⟩, _⟩ := hd0
    refine ⟨_, rfl, p, dx, _, rfl, h1, rfl, _, rfl, p, d, nm, z, rfl, hd, hnl, hz, hpl, hlay, hq.imp (fun v H' hv => ?_) (fun H' hv => ?_)⟩
    · obtain ⟨s, rfl, k⟩ := hv
      exact ⟨_, rfl, true, rfl, _, rfl, k⟩
    · refine ⟨true, T.m_NoRow_WordError, fun _ a ha => ?_, fun z => nomatch z⟩
      have e1 : decide (V.ref a = V.non) = false := rfl
      exact ⟨_, rfl, _, rfl, false, rfl, _, rfl, a, _, _, true, rfl, upd_same, T.x_NoRow, T.k_NoRow_NoRow, true, rfl, hv _ (Ext.new ha)⟩
end
end BW


set_option Elab.async false
set_option linter.all false
set_option maxRecDepth 100000
set_option maxHeartbeats 4000000
namespace BW
open PySem PySem.Spec PyProof.Rows L2 BwR BwE BwD BwS
section
variable {P : Program} {w : World} {K : PySem.W.Frag} {mg : Str → Option Value} {base : Heap}
/-! a name -/
theorem chars_of {xs : List V} (h : ∀ (i : Nat) (v : V), xs[i]? = some v → ∃ c, v = V.str ⟨#[c]⟩ ∧ 97 ≤ c ∧ c ≤ 122) : ∃ l : List Nat, xs = l.map (fun c => V.str ⟨#[c]⟩) ∧ ∀ c ∈ l, 97 ≤ c ∧ c ≤ 122 := by
  induction xs with
  | nil => exact ⟨[], rfl, fun _ z => nomatch z⟩
  | cons x xs ih =>
    obtain ⟨l, e1, e2⟩ := ih fun i v hv => h (i + 1) v hv
    obtain ⟨c, hc, h1⟩ := h 0 x rfl
    refine ⟨c :: l, by rw [hc, e1]; rfl, fun d hd => ?_⟩
    rcases List.mem_cons.mp hd with rfl | hd
    · exact h1
    · exact e2 d hd
theorem join_c (l : List Nat) : Txt.join (tS []) (l.map fun c => (⟨#[c]⟩ : Str)) = tS l := by
  have e : (l.map fun c => (⟨#[c]⟩ : Str)) = (l.map fun c => [c]).map tS := by rw [List.map_map]; rfl
  rw [e, join_e]
  have e2 : (l.map fun c => [c]).flatten = l := by
    clear e
    induction l with
    | nil => rfl
    | cons c l ih => exact congrArg (c :: ·) ih
  rw [e2]
theorem lens_c (l : List Nat) : ((l.map fun c => (⟨#[c]⟩ : Str)).map (·.length)).sum + (l.map fun c => (⟨#[c]⟩ : Str)).length * (tS []).length = l.length := by
  have e : (l.map fun c => (⟨#[c]⟩ : Str)) = (l.map fun c => [c]).map tS := by rw [List.map_map]; rfl
  rw [e, lens_e]
  clear e
  induction l with
  | nil => rfl
  | cons c l ih => simpa using ih
def wl : List (List Nat) := [[99, 108, 117, 98], [116, 111], [109, 111, 118, 101, 114], [110, 111, 110, 101], [114, 111, 119], [119, 101, 98], [97], [101, 110, 100, 108, 101, 115, 115]]
def NmS (l : List Nat) : Prop := l ≠ [] ∧ l.length ≤ 8 ∧ ∀ c ∈ l, c ≠ 32 ∧ c < 128
theorem NmS.ok {l : List Nat} (h : NmS l) : NmOk l := ⟨h.1, by have := h.2.1; omega, h.2.2⟩
theorem wl_ok : ∀ l ∈ wl, NmS l := by
  unfold NmS
  decide
theorem cutS_S (l : List Nat) (lo hi : Option Int) : ∃ l2, cutS (tS l) lo hi = tS l2 ∧ (∀ c ∈ l2, c ∈ l) ∧ l2.length ≤ l.length := by
  refine ⟨(l.drop (HT.sIx (tS l).length 0 lo)).take (HT.sIx (tS l).length (tS l).length hi - HT.sIx (tS l).length 0 lo), ?_, fun c hc => List.mem_of_mem_drop (List.mem_of_mem_take hc), ?_⟩
  · unfold cutS
    simp
  · simp only [List.length_take, List.length_drop]
    omega
def sp_lname : Sp := fun vs H Q _ => ∃ c : Int, vs = [.int c] ∧ ∀ l H', NmOk l → Ext H H' → Q (.str (tS l)) H'
theorem sc_lname : FnScope ["_law_cell", "_law_letters", "_law_name_here", "_law_k", "_law_at"] ["_law_cell"] (defScope s_law__law_name) := ⟨rfl, rfl, rfl, by decide +kernel, rfl, by decide +kernel, by decide +kernel⟩
theorem ok_lname (T : Txt K mg) : Ok P w K mg base 2 (n_law__law_name) ["_law_cell"] sp_lname := by
  refine ok_of T.f_law__law_name sc_lname (fun _ _ _ _ _ _ us hl => match us, hl with | [_], _ => rfl) (fun vs H Q E h => ?_) (fun f cdv A outer s H vs Q E hr h => ?_)
  · obtain ⟨c, rfl, _⟩ := h
    rfl
  · refine ⟨_, pss_cons (ps_set (i := 1) sc_lname.nd rfl (Or.inr rfl) pe_str)
      (pss_cons (ps_set (i := 2) sc_lname.nd rfl (Or.inl rfl) (pe_join pe_str (pe_lc (own := [("_law_k", 3)]) (g := gName 3) (tt := tYes) rfl sc_lname.nd (pi_range1 (by rfl) T.b_range (pa_cons (pe_op op_add pe_int (pe_op op_mod (pe_ok (ok_mix T) hr passL (pa_cons (pv 0) (pa_cons pe_int pa_nil))) pe_int)) pa_nil))
          (blkOk_by (N := ["_law_cell", "_law_letters", "_law_name_here", "_law_k", "_law_at"]) (sc := defScope s_law__law_name) (by decide +kernel)) (fun _ _ _ _ _ => pg_name (i := 3) sc_lname.nd rfl (Or.inl rfl)) (fun _ _ _ _ _ => pts_nil)
          (fun _ _ _ _ _ => pe_ix ix_str (pv 1) (pe_op op_mod (pe_ok (ok_mix T) hr passL (pa_cons (pv 0) (pa_cons (pe_op op_add pe_int (pv 3)) pa_nil))) pe_int) (fun _ _ => rfl)))))
        (pss_cons (ps_if (pt_cmpR op_eq (pe_op op_mod (pe_ok (ok_mix T) hr passL (pa_cons (pv 0) (pa_cons pe_int pa_nil))) pe_int) pe_int (nomark _))
            (pss_one (ps_set (i := 2) sc_lname.nd rfl (Or.inl rfl) (pe_ix ix_list (pe_lst (pa_cons pe_str (pa_cons pe_str (pa_cons pe_str (pa_cons pe_str (pa_cons pe_str (pa_cons pe_str (pa_cons pe_str (pa_cons pe_str pa_nil))))))))) (pe_op op_mod (pe_ok (ok_mix T) hr passL (pa_cons (pv 0) (pa_cons pe_int pa_nil))) pe_int) (fun _ _ => rfl)))) pss_nil)
          (pss_cons (ps_if (pt_cmpR op_gt (pe_op op_mod (pe_ok (ok_mix T) hr passL (pa_cons (pv 0) (pa_cons pe_int pa_nil))) pe_int) pe_int (nomark _)) (pss_one (ps_ret (pv 2))) pss_nil)
            (pss_cons (ps_set (i := 4) sc_lname.nd rfl (Or.inl rfl) (pe_op op_mod (pe_ok (ok_mix T) hr passL (pa_cons (pv 0) (pa_cons pe_int pa_nil))) (pe_op op_add (pe_callB call_len_str (by rfl) T.b_len PySem.boot_len (pa_cons (pv 2) pa_nil)) pe_int)))
              (pss_one (ps_ret (pe_op op_add_str (pe_op op_add_str (pe_slice sl_str (pv 2) po_none (po_some (pv 4))) (pe_ix ix_str pe_str (pe_op op_mod (pe_ok (ok_mix T) hr passL (pa_cons (pv 0) (pa_cons pe_int pa_nil))) pe_int) (fun _ _ => rfl))) (pe_slice sl_str (pv 2) (po_some (pv 4)) po_none)))))))), ?_⟩
    obtain ⟨c, rfl, k⟩ := h
    refine ⟨⟨_, rfl⟩, _, rfl, c, 2, rfl, fun i2 hi2 => ⟨_, _, rfl, rfl, (by show (0 : Int) < 8; decide), 1, _, rfl, rfl, _, rfl, ?_⟩⟩
    obtain ⟨m8, hm8, e8⟩ := mod_N (x := (i2 : Int)) (m := 8) (by decide)
    have e8 : (i2 : Int) % 8 = (m8 : Int) := e8
    dsimp only
    rw [e8]
    refine ⟨by omega, by omega, fun D hD => lc_rel walk_range (fun _ v _ => ∃ c, v = V.str ⟨#[c]⟩ ∧ 97 ≤ c ∧ c ≤ 122) (fun _ _ _ _ h _ => h) hD (big_of (by omega)) (fun _ _ => True.intro) (fun i v Ha H1 Q' hi x1 y hq => ?_) (fun H1 xs x1 hd hxl hxs => ?_)⟩
    · obtain ⟨rfl, rfl⟩ := y
      refine ⟨rfl, _, rfl, _, rfl, _, rfl, _, _, rfl, rfl, c, _, rfl, fun i3 hi3 => ⟨_, _, rfl, rfl, (by show (0 : Int) < 26; decide), ?_⟩⟩
      obtain ⟨j, hj, ej⟩ := mod_N (x := (i3 : Int)) (m := 26) (by decide)
      have hsm : ∀ j : Fin 26, smS.cps.toList[j.val]? = some (97 + j.val) := by decide +kernel
      refine ⟨smS, _, 97 + j, rfl, rfl, big_of (by show 26 ≤ _; decide), ?_, hq _ _ Ext.rfl' ⟨97 + j, rfl, by omega, by omega⟩⟩
      have ej : (i3 : Int) % 26 = (j : Int) := ej
      show atI _ ((i3 : Int) % 26) = _
      rw [ej]
      exact atI_nat (hsm ⟨j, hj⟩)
    · obtain ⟨l0, rfl, hl0⟩ := chars_of hxs
      rw [List.length_map] at hxl
      have hn : l0.length = 1 + m8 := by rw [hxl]; omega
      have nm0 : NmS l0 := ⟨fun e => by rw [e] at hn; simp at hn; omega, by omega, fun c hc => by have := hl0 c hc; omega⟩
      refine ⟨tS [], D, l0.map fun c => ⟨#[c]⟩, rfl, rfl, .inl (SqL.of (by rw [hd, List.map_map]; rfl)), by rw [lens_c]; omega, ?_⟩
      rw [join_c]
      refine ⟨_, rfl, c, 3, rfl, fun i3 hi3 => ⟨_, _, rfl, rfl, (by show (0 : Int) < 4; decide), rfl, _, rfl, ?_⟩⟩
      have rest : ∀ (l : List Nat) (H3 : Hp), NmS l → Ext H H3 → tSeq (tIfS (tTest (tOp (rI0 fun i j => V.bl (decide (j < i))) (tOp (rI (fun x j => 0 < j) fun i j => V.int (i % j)) (tCall sp_mix [] E0 (tCons (tVar 0) (tCons (tC (V.int 5)) tNil))) (tC (V.int 4))) (tC (V.int 0)))) (tRet (tVar 2)) tNext)
          (tSeq (tAsg (tOp (rI (fun x j => 0 < j) fun i j => V.int (i % j)) (tCall sp_mix [] E0 (tCons (tVar 0) (tCons (tC (V.int 6)) tNil))) (tOp (rI0 fun i j => V.int (i + j)) (tCB (fun xs H Q => ∃ z, xs = [V.str z] ∧ z.length ≤ sizeLine ∧ Q (V.int z.length) H) (tCons (tVar 2) tNil)) (tC (V.int 1)))) (gName 4))
            (tRet (tOp (fun x y H Q => ∃ i j, x = V.str i ∧ y = V.str j ∧ i.length + j.length ≤ sizeLine ∧ Q (V.str (i ++ j)) H) (tOp (fun x y H Q => ∃ i j, x = V.str i ∧ y = V.str j ∧ i.length + j.length ≤ sizeLine ∧ Q (V.str (i ++ j)) H) (tSl rSlS (tVar 2) tNoPart (tPart (tVar 4)))
              (tOp rIxS (tC (V.str "abzAZ19_-")) (tOp (rI (fun x j => 0 < j) fun i j => V.int (i % j)) (tCall sp_mix [] E0 (tCons (tVar 0) (tCons (tC (V.int 7)) tNil))) (tC (V.int 9))))) (tSl rSlS (tVar 2) (tPart (tVar 4)) tNoPart))))
          { nx := fun x H' => Q V.non H', rt := Q } [some (.int c), some (.str smS), some (.str (tS l)), none, none] H3 := fun l H3 hl x3 => by
        have hll : (tS l).length ≤ sizeLine := by rw [tS_len]; have := hl.2.1; exact big_of (by omega)
        refine ⟨_, rfl, c, 5, rfl, fun i5 hi5 => ⟨_, _, rfl, rfl, (by show (0 : Int) < 4; decide), _, _, rfl, rfl, decide ((0 : Int) < (i5 : Int) % 4), rfl, ?_⟩⟩
        show if decide ((0 : Int) < (i5 : Int) % 4) = true then _ else _
        by_cases h5 : decide ((0 : Int) < (i5 : Int) % 4) = true
        · rw [if_pos h5]
          exact ⟨_, rfl, k l H3 hl.ok x3⟩
        · rw [if_neg h5]
          refine ⟨_, rfl, c, 6, rfl, fun i6 hi6 => ⟨_, rfl, tS l, rfl, hll, _, _, rfl, rfl, _, _, rfl, rfl, (by show (0 : Int) < ((tS l).length : Int) + 1; omega), ?_⟩⟩
          obtain ⟨j6, hj6, e6⟩ := mod_N (x := (i6 : Int)) (m := (tS l).length + 1) (by omega)
          have e6 : (i6 : Int) % (((tS l).length : Int) + 1) = (j6 : Int) := by rw [← e6]; rfl
          have e6' : ((fun i j : Int => V.int (i % j)) (i6 : Int) (((tS l).length : Int) + 1)) = vN j6 := congrArg V.int e6
          rw [e6']
          obtain ⟨l1, c1, m1, s1⟩ := cutS_S l none (some (j6 : Int))
          obtain ⟨l2, c2, m2, s2⟩ := cutS_S l (some (j6 : Int)) none
          refine ⟨_, rfl, _, rfl, _, rfl, tS l, rfl, hll, _, rfl, c, 7, rfl, fun i7 hi7 => ⟨_, _, rfl, rfl, (by show (0 : Int) < 9; decide), ?_⟩⟩
          obtain ⟨j7, hj7, e7⟩ := mod_N (x := (i7 : Int)) (m := 9) (by decide)
          have e7 : (i7 : Int) % 9 = (j7 : Int) := e7
          dsimp only
          rw [e7, c1]
          have hs7 : ∀ j : Fin 9, ∃ q, q ≠ 32 ∧ q < 128 ∧ ("abzAZ19_-" : Str).cps.toList[j.val]? = some q := fun j => by
            have h9 : ∀ j : Fin 9, (("abzAZ19_-" : Str).cps.toList[j.val]?).any (fun q => decide (q ≠ 32 ∧ q < 128)) = true := by decide +kernel
            have := h9 j
            cases e : ("abzAZ19_-" : Str).cps.toList[j.val]? with
            | none => rw [e] at this; cases this
            | some q =>
              rw [e] at this
              have h := of_decide_eq_true this
              exact ⟨q, h.1, h.2, rfl⟩
          obtain ⟨q, q1, q2, hq⟩ := hs7 ⟨j7, hj7⟩
          have hl8 := hl.2.1
          refine ⟨"abzAZ19_-", _, q, rfl, rfl, big_of (by decide), atI_nat hq, tS l1, tS [q], rfl, rfl, by rw [tS_len, tS_len]; exact big_of (by show l1.length + 1 ≤ _; omega), ?_⟩
          rw [cat_S]
          refine ⟨_, rfl, _, rfl, _, rfl, tS l, rfl, hll, ?_⟩
          rw [c2]
          refine ⟨tS (l1 ++ [q]), tS l2, rfl, rfl, by rw [tS_len, tS_len, List.length_append]; exact big_of (by show l1.length + 1 + l2.length ≤ _; omega), ?_⟩
          rw [cat_S]
          refine k _ H3 ⟨by simp, by rw [List.length_append, List.length_append]; show l1.length + 1 + l2.length ≤ 40; omega, fun d hd => ?_⟩ x3
          rcases List.mem_append.mp hd with hd | hd
          · rcases List.mem_append.mp hd with hd | hd
            · exact hl.2.2 d (m1 d hd)
            · rw [List.mem_singleton] at hd
              subst hd
              exact ⟨q1, q2⟩
          · exact hl.2.2 d (m2 d hd)
      by_cases hc3 : decide (V.int ((i3 : Int) % 4) = V.int 0) = true
      · show if decide (V.int ((i3 : Int) % 4) = V.int 0) = true then _ else _
        rw [if_pos hc3]
        refine ⟨big_of (by show 8 ≤ _; decide), fun W hW => ⟨_, rfl, c, 4, rfl, fun i4 hi4 => ⟨_, _, rfl, rfl, (by show (0 : Int) < 8; decide), ?_⟩⟩⟩
        obtain ⟨j, hj, ej⟩ := mod_N (x := (i4 : Int)) (m := 8) (by decide)
        have ej : (i4 : Int) % 8 = (j : Int) := ej
        have hj8 : j < wl.length := hj
        obtain ⟨l, hlw⟩ : ∃ l, wl[j]? = some l := ⟨_, List.getElem?_eq_getElem hj8⟩
        have hl : NmS l := wl_ok l (List.mem_of_getElem? hlw)
        exact ⟨W, wl.map (fun l => V.str (tS l)), _, .str (tS l), rfl, rfl, SqL.of upd_same, by show atI _ ((i4 : Int) % 8) = _; rw [ej]; exact atI_nat (by rw [List.getElem?_map, hlw]; rfl), rest l _ hl (x1.trans (Ext.new hW))⟩
      · show if decide (V.int ((i3 : Int) % 4) = V.int 0) = true then _ else _
        rw [if_neg hc3]
        exact rest l0 H1 nm0 x1
/-! what a name means, as told and as kept -/
def kpV (e : Addr × (Bool × L)) : V := .ref e.1
abbrev kvP (kp : Nm) : List (Key × V) := encD kS kpV kp
structure KeptAt (H : Hp) (k : Addr) (kp : Nm) : Prop where
  dict : H k = some (.dK (kvP kp))
  tups : ∀ e ∈ kp, H e.2.1 = some (.tup [.str (if e.2.2.1 then "club" else "sending"), .str (lS e.2.2.2)])
theorem KeptAt.ext {H H' : Hp} {k : Addr} {kp : Nm} (h : KeptAt H k kp) (x : Ext H H') : KeptAt H' k kp := ⟨x _ _ h.dict, fun e he => x _ _ (h.tups e he)⟩
theorem KeptAt.e1 {H H' : Hp} {k d : Addr} {kp : Nm} {kvs : List (Key × V)} (h : KeptAt H k kp) (hd : H d = some (.dK kvs)) (n : k ≠ d) (x : Ext1 d H H') : KeptAt H' k kp := ⟨x _ _ n h.dict, fun e he => x _ _ (ne_at (h.tups e he) hd (fun z => nomatch z)) (h.tups e he)⟩
def SameK (kp nm : Nm) : Prop := ∀ z, (getA kp z).map (·.2) = (getA nm z).map (·.2)
theorem dget_p {H : Hp} {k : Addr} {kp : Nm} (h : H k = some (.dK (kvP kp))) (z : Str) : DGet H k (.str z) ((getA kp z).map kpV) := by
  rw [← val_enc (g := kpV) kS_inj z kp]
  exact DGet.k (k := kS z) h
theorem lay_nm {l : List Nat} (h : NmOk l) : (PyData.str (tS l)).canLay0 = true := by
  show PyData.strOk (tS l) = true
  unfold PyData.strOk
  rw [← Array.all_toList, List.all_eq_true]
  intro c hc
  have := (h.2.2 c (by simpa using hc)).2
  exact decide_eq_true (by omega)
theorem noE_nm {l : List Nat} (h : NmOk l) : noE (tS l) = true := by
  unfold noE
  refine decide_eq_true fun e => h.1 ?_
  have := congrArg (fun z : Str => z.cps.toList) e
  have e2 : l = ("" : Str).cps.toList := by simpa using this
  exact e2
theorem no32 {l : List Nat} (h : NmOk l) : 32 ∉ l := fun m => (h.2.2 32 m).1 rfl
/-- a row's parts -/
theorem row_parts {z : Str} {parts : List (List Nat)} (hz : z = tS (TL.joinL [32] parts)) (h0 : parts ≠ []) (h1 : ∀ p ∈ parts, 32 ∉ p) : Txt.split z " " = parts.map tS := by
  rw [hz]
  exact spl_parts h0 h1
end
end BW


set_option Elab.async false
set_option linter.all false
set_option maxRecDepth 100000
set_option maxHeartbeats 4000000
namespace BW
open PySem PySem.Spec PyProof.Rows L2 BwR BwE BwD BwS
section
variable {P : Program} {w : World} {K : PySem.W.Frag} {mg : Str → Option Value} {base : Heap}
theorem c_few : ("fewest" : Str) = tS [102, 101, 119, 101, 115, 116] := by decide +kernel
theorem c_few2 : ("fewest " : Str) = tS [102, 101, 119, 101, 115, 116, 32] := by decide +kernel
theorem c_sent : ("sent" : Str) = tS [115, 101, 110, 116] := by decide +kernel
theorem c_sent2 : ("sent " : Str) = tS [115, 101, 110, 116, 32] := by decide +kernel
theorem c_a : ("a" : Str) = tS [97] := by decide +kernel
theorem c_a2 : (" a" : Str) = tS [32, 97] := by decide +kernel
theorem c_club : ("club" : Str) = tS [99, 108, 117, 98] := by decide +kernel
theorem c_club2 : ("club " : Str) = tS [99, 108, 117, 98, 32] := by decide +kernel
theorem c_sending : ("sending" : Str) = tS [115, 101, 110, 100, 105, 110, 103] := by decide +kernel
theorem c_sending2 : ("sending " : Str) = tS [115, 101, 110, 100, 105, 110, 103, 32] := by decide +kernel
theorem c_6 : ("6" : Str) = tS [54] := by decide +kernel
theorem c_62 : (" 6 " : Str) = tS [32, 54, 32] := by decide +kernel
theorem c_b : (" " : Str) = tS [32] := by decide +kernel
/-- a row of good words -/
def RowOk (z : Str) (ws : List Str) : Prop := z.length ≤ 1000000 ∧ (Txt.split z " ").length ≤ 1000000 ∧ (Txt.split z " ").filter noE = ws ∧ ∀ s ∈ ws, (PyData.str s).canLay0 = true
theorem row_ok {z : Str} {parts : List (List Nat)} (hz : z = tS (TL.joinL [32] parts)) (h0 : parts ≠ []) (h1 : ∀ p ∈ parts, NmOk p) (hn : parts.length ≤ 9) (hl : (TL.joinL [32] parts).length ≤ 1000000) : RowOk z (parts.map tS) := by
  have e := row_parts hz h0 fun p hp => no32 (h1 p hp)
  refine ⟨by rw [hz, tS_len]; exact hl, by rw [e, List.length_map]; omega, ?_, fun s hs => ?_⟩
  · rw [e]
    refine List.filter_eq_self.mpr fun s hs => ?_
    obtain ⟨p, hp, rfl⟩ := List.mem_map.mp hs
    exact noE_nm (h1 p hp)
  · obtain ⟨p, hp, rfl⟩ := List.mem_map.mp hs
    exact lay_nm (h1 p hp)
theorem nm_c {l : List Nat} (h : decide (l ≠ [] ∧ l.length ≤ 40 ∧ ∀ c ∈ l, c ≠ 32 ∧ c < 128) = true) : NmOk l := (of_decide_eq_true h : l ≠ [] ∧ l.length ≤ 40 ∧ ∀ c ∈ l, c ≠ 32 ∧ c < 128)
theorem row_few {l : List Nat} (h : NmOk l) : RowOk ("fewest " ++ tS l) (["fewest", tS l] : List Str) := by
  have hl := h.2.1
  rw [c_few2, c_few]
  refine row_ok (parts := [[102, 101, 119, 101, 115, 116], l]) (by rw [cat_S]; simp [TL.joinL]) (by simp) (fun p hp => ?_) (by simp) (by simp [TL.joinL]; omega)
  simp only [List.mem_cons, List.not_mem_nil, or_false] at hp
  rcases hp with rfl | rfl
  · exact nm_c (by decide +kernel)
  · exact h
theorem row_sent {l : List Nat} (h : NmOk l) : RowOk ("sent " ++ tS l ++ " a") (["sent", tS l, "a"] : List Str) := by
  have hl := h.2.1
  rw [c_sent2, c_a2, c_sent, c_a]
  refine row_ok (parts := [[115, 101, 110, 116], l, [97]]) (by rw [cat_S, cat_S]; simp [TL.joinL]) (by simp) (fun p hp => ?_) (by simp) (by simp [TL.joinL]; omega)
  simp only [List.mem_cons, List.not_mem_nil, or_false] at hp
  rcases hp with rfl | rfl | rfl
  · exact nm_c (by decide +kernel)
  · exact h
  · exact nm_c (by decide +kernel)
theorem row_club {l : List Nat} {c : Nat} (h : NmOk l) (hc : 97 ≤ c ∧ c < 128) : RowOk ("club " ++ tS l ++ " " ++ tS [c]) (["club", tS l, tS [c]] : List Str) := by
  have hl := h.2.1
  rw [c_club2, c_b, c_club]
  refine row_ok (parts := [[99, 108, 117, 98], l, [c]]) (by rw [cat_S, cat_S, cat_S]; simp [TL.joinL]) (by simp) (fun p hp => ?_) (by simp) (by simp [TL.joinL]; omega)
  simp only [List.mem_cons, List.not_mem_nil, or_false] at hp
  rcases hp with rfl | rfl | rfl
  · exact nm_c (by decide +kernel)
  · exact h
  · exact ⟨by simp, by simp, fun d hd => by rw [List.mem_singleton] at hd; omega⟩
theorem row_sending {l : List Nat} {c : Nat} (h : NmOk l) (hc : 97 ≤ c ∧ c < 128) : RowOk ("sending " ++ tS l ++ " 6 " ++ tS [c]) (["sending", tS l, "6", tS [c]] : List Str) := by
  have hl := h.2.1
  rw [c_sending2, c_62, c_sending, c_6]
  refine row_ok (parts := [[115, 101, 110, 100, 105, 110, 103], l, [54], [c]]) (by rw [cat_S, cat_S, cat_S]; simp [TL.joinL]) (by simp) (fun p hp => ?_) (by simp) (by simp [TL.joinL]; omega)
  simp only [List.mem_cons, List.not_mem_nil, or_false] at hp
  rcases hp with rfl | rfl | rfl | rfl
  · exact nm_c (by decide +kernel)
  · exact h
  · exact nm_c (by decide +kernel)
  · exact ⟨by simp, by simp, fun d hd => by rw [List.mem_singleton] at hd; omega⟩
/-! what is kept is shown -/
def sp_lshown (K : PySem.W.Frag) : Sp := fun vs H Q _ => ∃ (p d k : Addr) (nm kp : Nm) (l : List Nat), vs = [.ref p, .ref k, .str (tS l)] ∧ DeskAt K H p d nm ∧ KeptAt H k kp ∧ SameK kp nm ∧ NmOk l ∧ nm.length ≤ 1000000 ∧ ∀ H', Ext H H' → Q (.bl true) H'
theorem sc_lshown : FnScope ["_law_desk", "_law_kept", "_law_name_here", "_law_sort", "_law_word", "_law_due"] ["_law_desk", "_law_kept", "_law_name_here"] (defScope s_law__law_shown) := ⟨rfl, rfl, rfl, by decide +kernel, rfl, by decide +kernel, by decide +kernel⟩
theorem str_ne {a b : Str} (h : a ≠ b) : (!decide (V.str a = V.str b)) = true := by
  rw [decide_eq_false fun e => h (by injection e)]
  rfl
theorem str_eq (a : Str) : (!decide (V.str a = V.str a)) = false := by
  rw [decide_eq_true rfl]
  rfl
theorem kinds {H : Hp} {p d k t : Addr} {nm kp : Nm} {l : List Nat} (hk : KeptAt H k kp) (hs : SameK kp nm) (ht : H t = none) : ∃ (a : Addr) (so wo : Str) (b1 b2 : Bool), ((getA kp (tS l)).map kpV).getD (.ref t) = .ref a ∧ upd H t (.tup [.str "none", .str ""]) a = some (.tup [.str so, .str wo]) ∧
    (!decide (V.str so = V.str "club")) = b1 ∧ (!decide (V.str so = V.str "sending")) = b2 ∧
    (∀ H (Q : Str → Hp → Prop), (∀ H', Ext H H' → Q (if b1 = true then "norow" else wo) H') → SayQ K p d nm (["fewest", tS l] : List Str) H (fun v H' => ∃ s, v = .str s ∧ Q s H') (fun _ _ H' => ∀ H'', Ext H' H'' → Q "norow" H'')) ∧
    (∀ H (Q : Str → Hp → Prop), (∀ H', Ext H H' → Q (if b2 = true then "norow" else wo) H') → SayQ K p d nm (["sent", tS l, "a"] : List Str) H (fun v H' => ∃ s, v = .str s ∧ Q s H') (fun _ _ H' => ∀ H'', Ext H' H'' → Q "norow" H'')) := by
  have hz := hs (tS l)
  cases e : getA kp (tS l) with
  | none =>
    rw [e] at hz
    have e2 : getA nm (tS l) = none := by
      cases e3 : getA nm (tS l) with
      | none => rfl
      | some v => rw [e3] at hz; cases hz
    refine ⟨t, "none", "", true, true, rfl, upd_same, str_ne (by decide +kernel), str_ne (by decide +kernel), fun H' Q h => .inr (.inl ⟨_, rfl, ?_⟩), fun H' Q h => .inr (.inr ⟨_, rfl, ?_⟩)⟩
    · rw [e2]
      exact fun H2 x H3 y => h _ (x.trans y)
    · rw [e2]
      exact fun H2 x H3 y => h _ (x.trans y)
  | some v =>
    obtain ⟨a, b, x⟩ := v
    rw [e] at hz
    obtain ⟨a2, e2⟩ : ∃ a2, getA nm (tS l) = some (a2, (b, x)) := by
      cases e3 : getA nm (tS l) with
      | none => rw [e3] at hz; cases hz
      | some v =>
        rw [e3] at hz
        obtain ⟨a2, c⟩ := v
        injection hz with hz
        exact ⟨a2, by rw [show c = (b, x) from hz.symm]⟩
    have ta := hk.tups _ (getA_mem e)
    cases b with
    | true =>
      refine ⟨a, "club", lS x, false, true, rfl, (Ext.new ht) _ _ ta, str_eq _, str_ne (by decide +kernel), fun H' Q h => .inr (.inl ⟨_, rfl, ?_⟩), fun H' Q h => .inr (.inr ⟨_, rfl, ?_⟩)⟩
      · rw [e2]
        exact fun H2 x => ⟨_, rfl, h _ x⟩
      · rw [e2]
        exact fun H2 x H3 y => h _ (x.trans y)
    | false =>
      refine ⟨a, "sending", lS x, true, false, rfl, (Ext.new ht) _ _ ta, str_ne (by decide +kernel), str_eq _, fun H' Q h => .inr (.inl ⟨_, rfl, ?_⟩), fun H' Q h => .inr (.inr ⟨_, rfl, ?_⟩)⟩
      · rw [e2]
        exact fun H2 x H3 y => h _ (x.trans y)
      · rw [e2]
        exact fun H2 x => ⟨_, rfl, h _ x⟩
theorem ok_lshown (T : Txt K mg) : Ok P w K mg base 14 (n_law__law_shown) ["_law_desk", "_law_kept", "_law_name_here"] (sp_lshown K) := by
  refine ok_of T.f_law__law_shown sc_lshown (fun _ _ _ _ _ _ us hl => match us, hl with | [_, _, _], _ => rfl) (fun vs H Q E h => ?_) (fun f cdv A outer s H vs Q E hr h => ?_)
  · obtain ⟨p, d, k, nm, kp, l, rfl, _⟩ := h
    rfl
  · have hu := hu_of hr
    refine ⟨_, pss_cons (ps_asg (pe_dget2 hu (pv 1) (pv 2) (pe_tup (pa_cons pe_str (pa_cons pe_str pa_nil))) ⟨rfl, rfl, rfl, rfl⟩) (pg_tup rfl (pgs_cons (pg_name (i := 3) sc_lshown.nd rfl (Or.inl rfl)) (pgs_cons (pg_name (i := 4) sc_lshown.nd rfl (Or.inl rfl)) pgs_nil))))
      (pss_cons (ps_set (i := 5) sc_lshown.nd rfl (Or.inl rfl) (pe_ix ix_list (pe_lst (pa_cons (pv 4) (pa_cons pe_str pa_nil))) (pe_callTy call_int1 (by rfl) T.b_int (by decide +kernel) (pa_cons (pe_cmpR op_ne (pv 3) pe_str (nomark _)) pa_nil)) (fun _ _ => rfl)))
        (pss_cons (ps_if (pt_cmpR op_ne (pe_ok (ok_said T) hr passL (pa_cons (pv 0) (pa_cons (pe_op op_add_str pe_str (pv 2)) pa_nil))) (pv 5) (nomark _)) (pss_one (ps_ret pe_bl)) pss_nil)
          (pss_one (ps_ret (pe_cmpR op_eq (pe_ok (ok_said T) hr passL (pa_cons (pv 0) (pa_cons (pe_op op_add_str (pe_op op_add_str pe_str (pv 2)) pe_str) pa_nil))) (pe_ix ix_list (pe_lst (pa_cons (pv 4) (pa_cons pe_str pa_nil))) (pe_callTy call_int1 (by rfl) T.b_int (by decide +kernel) (pa_cons (pe_cmpR op_ne (pv 3) pe_str (nomark _)) pa_nil)) (fun _ _ => rfl)) (nomark _)))))), ?_⟩
    obtain ⟨p, d, k, nm, kp, l, rfl, hd, hk, hs, hl, hnl, kk⟩ := h
    refine ⟨_, rfl, k, rfl, .inl ⟨_, .inl hk.dict⟩, _, rfl, big_of (by show 2 ≤ _; decide), fun t ht => ⟨_, dget_p (hk.ext (Ext.new ht)).dict (tS l), ?_⟩⟩
    obtain ⟨a, so, wo, b1, b2, ea, ta, hb1, hb2, hq1, hq2⟩ := kinds (K := K) (p := p) (d := d) hk hs (l := l) ht
    have x0 := Ext.new (o := .tup [.str "none", .str ""]) ht
    revert ta x0
    generalize upd H t (.tup [.str "none", .str ""]) = H0
    intro ta x0
    rw [ea]
    refine ⟨a, _, rfl, SqT.of ta, rfl, _, _, rfl, _, _, rfl, rfl, _, rfl, big_of (by show 2 ≤ _; decide), fun q hq => ⟨_, rfl, rfl, .inr ⟨_, rfl, ?_⟩⟩⟩
    rw [hb1]
    refine ⟨q, _, _, .str (if b1 = true then "norow" else wo), rfl, rfl, SqL.of upd_same, by cases b1 <;> rfl, ?_⟩
    have x1 := x0.trans (Ext.new (o := .lst [.str wo, .str "norow"]) hq)
    revert x1
    generalize upd H0 q (.lst [.str wo, .str "norow"]) = H1
    intro x1
    have r1 := row_few hl
    have r2 := row_sent hl
    have hl2 := hl.2.1
    refine ⟨_, rfl, _, rfl, _, _, rfl, rfl, by rw [c_few2, tS_len, tS_len]; exact big_of (by simp; omega), p, d, nm, _, rfl, hd.ext x1, hnl, r1.1, r1.2.1, by rw [r1.2.2.1]; exact r1.2.2.2, ?_⟩
    rw [r1.2.2.1]
    refine hq1 _ _ fun H2 x2 => ?_
    refine ⟨_, rfl, rfl, _, rfl, ?_⟩
    rw [decide_eq_true rfl]
    refine ⟨_, rfl, _, rfl, _, _, rfl, rfl, by rw [c_sent2, tS_len, tS_len]; exact big_of (by simp; omega), _, _, rfl, rfl, by rw [c_sent2, c_a2, cat_S, tS_len, tS_len]; exact big_of (by simp; omega), p, d, nm, _, rfl, (hd.ext x1).ext x2, hnl, r2.1, r2.2.1, by rw [r2.2.2.1]; exact r2.2.2.2, ?_⟩
    rw [r2.2.2.1]
    refine hq2 _ _ fun H3 x3 => ?_
    refine ⟨_, rfl, big_of (by show 2 ≤ _; decide), fun q2 hq2' => ⟨_, rfl, rfl, .inr ⟨_, rfl, ?_⟩⟩⟩
    rw [hb2]
    refine ⟨q2, _, _, .str (if b2 = true then "norow" else wo), rfl, rfl, SqL.of upd_same, by cases b2 <;> rfl, rfl, ?_⟩
    rw [decide_eq_true rfl]
    exact kk _ (((x1.trans x2).trans x3).trans (Ext.new hq2'))
end
end BW


set_option Elab.async false
set_option linter.all false
set_option maxRecDepth 100000
set_option maxHeartbeats 4000000
namespace BW
open PySem PySem.Spec PyProof.Rows L2 BwR BwE BwD BwS
section
variable {P : Program} {w : World} {K : PySem.W.Frag} {mg : Str → Option Value} {base : Heap}
def up {α : Type} (f : Nat → α) (j : Nat) (x : α) : Nat → α := fun i => if i = j then x else f i
theorem up_same {α : Type} {f : Nat → α} {j : Nat} {x : α} : up f j x j = x := if_pos rfl
theorem up_ne {α : Type} {f : Nat → α} {i j : Nat} {x : α} (h : i ≠ j) : up f j x i = f i := if_neg h
theorem getA_putA {α β : Type} [DecidableEq α] (xs : List (α × β)) (k z : α) (v : β) : getA (putA xs k v) z = if z = k then some v else getA xs z := by
  induction xs with
  | nil =>
    show getA [(k, v)] z = _
    rw [getA_cons]
    by_cases h : z = k
    · rw [if_pos h, if_pos h.symm]
    · rw [if_neg h, if_neg fun q => h q.symm]
  | cons e xs ih =>
    by_cases h : e.1 = k
    · have e1 : putA (e :: xs) k v = (k, v) :: xs.map (fun e => if e.1 = k then (e.1, v) else e) := by
        unfold putA
        rw [if_pos (by simp [h])]
        simp [h]
      rw [e1, getA_cons, getA_cons]
      by_cases hz : z = k
      · rw [if_pos hz, if_pos hz.symm]
      · have h2 : ¬ e.1 = z := fun q => hz (by rw [← q, h])
        rw [if_neg hz, if_neg (fun q => hz q.symm), if_neg h2]
        clear ih e1
        induction xs with
        | nil => rfl
        | cons q xs ih =>
          rw [List.map_cons, getA_cons, getA_cons]
          by_cases hq : q.1 = k
          · rw [if_pos hq]
            have h3 : ¬ q.1 = z := fun r => hz (by rw [← r, hq])
            rw [if_neg h3, if_neg h3]
            exact ih
          · rw [if_neg hq]
            by_cases h3 : q.1 = z
            · rw [if_pos h3, if_pos h3]
            · rw [if_neg h3, if_neg h3]
              exact ih
    · have e1 : putA (e :: xs) k v = e :: putA xs k v := by
        unfold putA
        by_cases hx : (xs.any fun e => decide (e.1 = k)) = true
        · rw [if_pos (by simp [h, hx]), if_pos hx]
          simp [h]
        · rw [if_neg (by simpa [h] using hx), if_neg hx]
          rfl
      rw [e1, getA_cons, getA_cons, ih]
      by_cases h3 : e.1 = z
      · have h4 : ¬ z = k := fun q => h (by rw [h3, q])
        rw [if_pos h3, if_neg h4]
        rw [if_pos h3]
      · rw [if_neg h3, if_neg h3]
theorem SameK.put {kp nm : Nm} (h : SameK kp nm) (z : Str) (a b : Addr) (v : Bool × L) : SameK (putA kp z (a, v)) (putA nm z (b, v)) := fun y => by
  rw [getA_putA, getA_putA]
  by_cases e : y = z
  · rw [if_pos e, if_pos e]
    rfl
  · rw [if_neg e, if_neg e]
    exact h y
/-! things stand when a list changes -/
theorem ThingAt.eL {H H' : Hp} {d a : Addr} {b : Bool} {x : L} {xs : List V} (h : ThingAt K H a b x) (hd : H d = some (.lst xs)) (z : Ext1 d H H') : ThingAt K H' a b x := by
  cases b with
  | true =>
    obtain ⟨dx, t, w, h1, h2, dxw, dw, tw, prsw, w1, w2, w3, w4, w5⟩ := h
    refine ⟨dx, t, w, z _ _ (ne_at h1 hd (fun q => nomatch q)) h1, z _ _ (ne_at h2 hd (fun q => nomatch q)) h2, dxw, dw, tw, prsw, z _ _ (ne_at w1 hd (fun q => nomatch q)) w1, z _ _ (ne_at w2 hd (fun q => nomatch q)) w2, z _ _ (ne_at w3 hd (fun q => nomatch q)) w3, fun q hq => z _ _ (ne_at (w4 q hq) hd (fun q => nomatch q)) (w4 q hq), w5⟩
  | false =>
    obtain ⟨dx, t, h1, h2⟩ := h
    exact ⟨dx, t, z _ _ (ne_at h1 hd (fun q => nomatch q)) h1, z _ _ (ne_at h2 hd (fun q => nomatch q)) h2⟩
theorem DeskAt.e1L {H H' : Hp} {p d d' : Addr} {nm : Nm} {xs : List V} (h : DeskAt K H p d nm) (hd : H d' = some (.lst xs)) (z : Ext1 d' H H') : DeskAt K H' p d nm := by
  obtain ⟨⟨dx, h1⟩, h2, h3, h4⟩ := h
  exact ⟨⟨dx, z _ _ (ne_at h1 hd (fun q => nomatch q)) h1⟩, z _ _ (ne_at h2 hd (fun q => nomatch q)) h2, fun e he => (h3 e he).eL hd z, h4⟩
theorem KeptAt.e1L {H H' : Hp} {k d : Addr} {kp : Nm} {xs : List V} (h : KeptAt H k kp) (hd : H d = some (.lst xs)) (x : Ext1 d H H') : KeptAt H' k kp := ⟨x _ _ (ne_at h.dict hd (fun z => nomatch z)) h.dict, fun e he => x _ _ (ne_at (h.tups e he) hd (fun z => nomatch z)) (h.tups e he)⟩
/-- what stands while the script goes on -/
structure LInv (K : PySem.W.Frag) (H : Hp) (D KK N W : Addr) (ws : List V) (i : Nat) (p d k : Nat → Addr) (nm kp : Nat → Nm) (ls : List (List Nat)) : Prop where
  hD : H D = some (.lst [.ref (p 0), .ref (p 1)])
  hK : H KK = some (.lst [.ref (k 0), .ref (k 1)])
  hN : H N = some (.lst (ls.map fun l => V.str (tS l)))
  hW : H W = some (.lst ws)
  desk : ∀ j, j < 2 → DeskAt K H (p j) (d j) (nm j)
  kept : ∀ j, j < 2 → KeptAt H (k j) (kp j)
  small : ∀ j, j < 2 → (nm j).length ≤ i ∧ (kp j).length ≤ i
  ndk : ∀ a b, a < 2 → b < 2 → d a ≠ k b
  nd : d 0 ≠ d 1
  nk : k 0 ≠ k 1
  nNW : N ≠ W
  nND : N ≠ D
  nNK : N ≠ KK
  nms : ∀ l ∈ ls, NmOk l
  len : ls.length ≤ i + 1
  pos : 0 < ls.length
theorem ne2 {α : Type} {f : Nat → α} (h : f 0 ≠ f 1) {i j : Nat} (hi : i < 2) (hj : j < 2) (n : i ≠ j) : f i ≠ f j := by
  have : (i = 0 ∧ j = 1) ∨ (i = 1 ∧ j = 0) := by omega
  rcases this with ⟨rfl, rfl⟩ | ⟨rfl, rfl⟩
  · exact h
  · exact h.symm
variable {H H' : Hp} {D KK N W : Addr} {ws : List V} {i : Nat} {p d k : Nat → Addr} {nm kp : Nat → Nm} {ls : List (List Nat)}
theorem LInv.ext (h : LInv K H D KK N W ws i p d k nm kp ls) (x : Ext H H') : LInv K H' D KK N W ws i p d k nm kp ls :=
  ⟨x _ _ h.hD, x _ _ h.hK, x _ _ h.hN, x _ _ h.hW, fun j hj => (h.desk j hj).ext x, fun j hj => (h.kept j hj).ext x, h.small, h.ndk, h.nd, h.nk, h.nNW, h.nND, h.nNK, h.nms, h.len, h.pos⟩
theorem LInv.said {a : Nat} {nm' : Nm} (h : LInv K H D KK N W ws i p d k nm kp ls) (ha : a < 2) (x : Ext1 (d a) H H') (hd : DeskAt K H' (p a) (d a) nm') (hl : nm'.length ≤ i + 1) : LInv K H' D KK N W ws (i + 1) p d k (up nm a nm') kp ls := by
  have hx := (h.desk a ha).dict
  refine ⟨x _ _ (ne_at h.hD hx fun z => nomatch z) h.hD, x _ _ (ne_at h.hK hx fun z => nomatch z) h.hK, x _ _ (ne_at h.hN hx fun z => nomatch z) h.hN, x _ _ (ne_at h.hW hx fun z => nomatch z) h.hW, fun j hj => ?_, fun j hj => (h.kept j hj).e1 hx (h.ndk a j ha hj).symm x, fun j hj => ?_, h.ndk, h.nd, h.nk, h.nNW, h.nND, h.nNK, h.nms, by have := h.len; omega, h.pos⟩
  · by_cases e : j = a
    · subst e
      rw [up_same]
      exact hd
    · rw [up_ne e]
      exact (h.desk j hj).e1 hx (ne2 h.nd hj ha e) x
  · have hs := h.small j hj
    by_cases e : j = a
    · subst e
      rw [up_same]
      exact ⟨hl, by omega⟩
    · rw [up_ne e]
      exact ⟨by omega, by omega⟩
theorem LInv.put {a : Nat} {z : Str} {t : Addr} {b : Bool} {x : L} (h : LInv K H D KK N W ws (i + 1) p d k nm kp ls) (ha : a < 2) (hl : (kp a).length ≤ i) (ht : H t = some (.tup [.str (if b then "club" else "sending"), .str (lS x)])) :
    LInv K (upd H (k a) (.dK (kvP (putA (kp a) z (t, (b, x)))))) D KK N W ws (i + 1) p d k nm (up kp a (putA (kp a) z (t, (b, x)))) ls := by
  have hx := (h.kept a ha).dict
  have y : Ext1 (k a) H (upd H (k a) (.dK (kvP (putA (kp a) z (t, (b, x)))))) := Ext1.rfl'.put _
  refine ⟨y _ _ (ne_at h.hD hx fun z => nomatch z) h.hD, y _ _ (ne_at h.hK hx fun z => nomatch z) h.hK, y _ _ (ne_at h.hN hx fun z => nomatch z) h.hN, y _ _ (ne_at h.hW hx fun z => nomatch z) h.hW, fun j hj => (h.desk j hj).e1 hx (h.ndk j a hj ha) y, fun j hj => ?_, fun j hj => ?_, h.ndk, h.nd, h.nk, h.nNW, h.nND, h.nNK, h.nms, h.len, h.pos⟩
  · by_cases e : j = a
    · subst e
      rw [up_same]
      refine ⟨upd_same, fun q hq => ?_⟩
      rcases putA_mem hq with hq | hq
      · exact y _ _ (ne_at ((h.kept j hj).tups q hq) hx fun z => nomatch z) ((h.kept j hj).tups q hq)
      · rw [hq]
        exact y _ _ (ne_at ht hx fun z => nomatch z) ht
    · rw [up_ne e]
      exact (h.kept j hj).e1 hx (ne2 h.nk hj ha e) y
  · have hs := h.small j hj
    by_cases e : j = a
    · subst e
      rw [up_same]
      have := putA_len (kp j) z (t, (b, x))
      exact ⟨hs.1, by omega⟩
    · rw [up_ne e]
      exact hs
theorem LInv.app {l : List Nat} (h : LInv K H D KK N W ws i p d k nm kp ls) (hl : NmOk l) (hn : ls.length ≤ i) : LInv K (upd H N (.lst ((ls.map fun l => V.str (tS l)) ++ [V.str (tS l)]))) D KK N W ws i p d k nm kp (ls ++ [l]) := by
  have y : Ext1 N H (upd H N (.lst ((ls.map fun l => V.str (tS l)) ++ [V.str (tS l)]))) := Ext1.rfl'.put _
  refine ⟨y _ _ h.nND.symm h.hD, y _ _ h.nNK.symm h.hK, by rw [upd_same]; simp, y _ _ h.nNW.symm h.hW, fun j hj => ?_, fun j hj => ?_, h.small, h.ndk, h.nd, h.nk, h.nNW, h.nND, h.nNK, fun q hq => ?_, by simp; omega, by simp⟩
  · exact (h.desk j hj).e1L h.hN y
  · exact (h.kept j hj).e1L h.hN y
  · rcases List.mem_append.mp hq with hq | hq
    · exact h.nms q hq
    · rw [List.mem_singleton] at hq
      rw [hq]
      exact hl
end
end BW


set_option Elab.async false
set_option linter.all false
set_option maxRecDepth 100000
set_option maxHeartbeats 4000000
namespace BW
open PySem PySem.Spec PyProof.Rows L2 BwR BwE BwD BwS
section
variable {P : Program} {w : World} {K : PySem.W.Frag} {mg : Str → Option Value} {base : Heap}
/-! the law -/
theorem say_told {p d : Addr} {nm : Nm} {b : Bool} {l : List Nat} {x : L} {ws : List Str} {H : Hp} {Q : Str → Hp → Prop} (hw : ws = tellW b (tS l) x) (hx : lo x = true) (hl : l.length ≤ 1000000) (hd : DeskAt K H p d nm) (h : ∀ H' nm' t, Ext1 d H H' → DeskAt K H' p d nm' → nm' = (if isNm l = true then putA nm (tS l) (t, (b, x)) else nm) → Q (if isNm l = true then "ok" else "norow") H') :
    SayQ K p d nm ws H (fun v H' => ∃ s, v = .str s ∧ Q s H') (fun _ _ H' => ∀ H'', Ext H' H'' → Q "norow" H'') := by
  have e : (tS l).cps.toList = l := by simp
  refine .inl ⟨b, tS l, x, hw, hx, by rw [tS_len]; exact hl, fun a H' t y D => ⟨_, rfl, ?_⟩, fun a H' y H'' z => ?_⟩
  · rw [e] at a
    have := h H' _ t y D (by rw [if_pos a])
    rw [if_pos a] at this
    exact this
  · rw [e] at a
    have a2 : ¬ isNm l = true := by rw [a]; exact Bool.false_ne_true
    have := h H'' _ 0 (y.trans z).e1 (hd.ext (y.trans z)) (by rw [if_neg a2])
    rw [if_neg a2] at this
    exact this
theorem made_ext {H H' : Hp} {x dx : Addr} {o u : HO} (hx : H x = none) (hd : H dx = none) (y : Ext1 x (upd (upd H dx o) x u) H') : Ext H H' := fun p v e => by
  have n1 : p ≠ x := fun z => by rw [z, hx] at e; cases e
  have n2 : p ≠ dx := fun z => by rw [z, hd] at e; cases e
  exact y p v n1 (by rw [upd_ne n1, upd_ne n2]; exact e)
def pk {α : Type} (a b : α) : Nat → α
  | 0 => a
  | _ + 1 => b
theorem lt2 {M : Nat → Prop} (h0 : M 0) (h1 : M 1) : ∀ j, j < 2 → M j := fun j hj => by
  have : j = 0 ∨ j = 1 := by omega
  rcases this with rfl | rfl
  · exact h0
  · exact h1
theorem cut20 (ns : List Int) : (∀ v ∈ cutV (ns.map V.int) none (some 20) ++ [V.int 0, V.int 1], ∃ n, v = V.int n) ∧ (cutV (ns.map V.int) none (some 20)).length ≤ ns.length := by
  refine ⟨fun v hv => ?_, by have := cutV_length (ns.map V.int) none (some 20); rwa [List.length_map] at this⟩
  rcases List.mem_append.mp hv with hv | hv
  · obtain ⟨n, _, e⟩ := List.mem_map.mp (List.mem_of_mem_drop (List.mem_of_mem_take hv))
    exact ⟨n, e.symm⟩
  · simp only [List.mem_cons, List.not_mem_nil, or_false] at hv
    rcases hv with rfl | rfl
    · exact ⟨_, rfl⟩
    · exact ⟨_, rfl⟩
theorem lo6 : ∀ j : Fin 6, ("abcdef" : Str).cps.toList[j.val]? = some (cp (loX j.val)) ∧ lo (loX j.val) = true ∧ 97 ≤ cp (loX j.val) ∧ cp (loX j.val) < 128 := by decide +kernel
theorem sql_ext {H H' : Hp} {a : Addr} {xs : List V} (h : SqL K H a xs) (x : Ext H H') : SqL K H' a xs := by
  exact h.elim (fun h => .inl (h.elim (fun h => .inl (x _ _ h)) fun ⟨o, h⟩ => .inr ⟨o, x _ _ h⟩)) fun h => .inr h
theorem new2 {H : Hp} {p : Addr} {o : HO} (h : H p = none) : Ext H (upd H p o) ∧ upd H p o p = some o := ⟨Ext.new h, upd_same⟩
theorem c_x : ("x" : Str) = tS [120] := by decide +kernel
theorem ne_fresh {H : Hp} {a b : Addr} {o : HO} (ha : H a = some o) (hb : H b = none) : a ≠ b := fun z => by
  rw [z, hb] at ha
  cases ha
def sp_law (K : PySem.W.Frag) : Sp := fun vs H Q _ => ∃ (a : Addr) (ns : List Int), vs = [.ref a] ∧ SqL K H a (ns.map V.int) ∧ ns.length ≤ 1000 ∧ ∀ H', Q (.bl true) H'
theorem sc_law : FnScope ["_law_script", "_law_desks", "_law_kepts", "_law_names", "_law_k", "_law_cell", "_law_draw", "_law_name_here", "_law_at", "_law_letter", "_law_way", "_law_row", "_law_one", "_law_j"] ["_law_script"] (defScope s_law_law) := ⟨rfl, rfl, rfl, by decide +kernel, rfl, by decide +kernel, by decide +kernel⟩
theorem ok_law (T : Txt K mg) {f0 : Addr} {fd0 : FuncData} (F : FunD K "law" "law" (defArgs s_law_law) (defBody s_law_law) (defScope s_law_law) [] [] f0 fd0) : FnOk P w K mg base (L2.CX P w) 15 f0 fd0 ["_law_script"] (sp_law K) := by
  refine F.ok sc_law (fun vs H Q E h => ?_) ((show Body P w K mg base ["_law_script", "_law_desks", "_law_kepts", "_law_names", "_law_k", "_law_cell", "_law_draw", "_law_name_here", "_law_at", "_law_letter", "_law_way", "_law_row", "_law_one", "_law_j"] ["_law_script"] "law" s_law_law 14 (sp_law K) from fun f cdv A outer s H vs Q E hr h => ?_) f0)
  · obtain ⟨a, ns, rfl, _⟩ := h
    rfl
  · have hu := hu_of hr
    refine ⟨_, pss_cons (ps_set (i := 1) sc_law.nd rfl (Or.inl rfl) (pe_lst (pa_cons (pe_okI0 (ok_Desk_init T) T.c_Desk (hr.mono (by decide)) passL) (pa_cons (pe_okI0 (ok_Desk_init T) T.c_Desk (hr.mono (by decide)) passL) pa_nil))))
      (pss_cons (ps_set (i := 2) sc_law.nd rfl (Or.inl rfl) (pe_lst (pa_cons pe_dnewK (pa_cons pe_dnewK pa_nil))))
      (pss_cons (ps_set (i := 3) sc_law.nd rfl (Or.inl rfl) (pe_lst (pa_cons pe_str pa_nil)))
      (pss_cons (ps_for (passes_of rfl) rfl (pi_enum (by rfl) T.b_enumerate (pa_cons (pe_op op_cat (pe_slice sl_list (pv 0) po_none (po_some pe_int)) (pe_lst (pa_cons pe_int (pa_cons pe_int pa_nil)))) pa_nil)) (pg_tup rfl (pgs_cons (pg_name (i := 4) sc_law.nd rfl (Or.inl rfl)) (pgs_cons (pg_name (i := 5) sc_law.nd rfl (Or.inl rfl)) pgs_nil)))
        (pss_cons (ps_set (i := 6) sc_law.nd rfl (Or.inl rfl) (pe_ok (ok_mix T) (hr.mono (by decide)) passL (pa_cons (pv 5) (pa_cons (pv 4) pa_nil))))
        (pss_cons (ps_set (i := 7) sc_law.nd rfl (Or.inl rfl) (pe_ok (ok_lname T) (hr.mono (by decide)) passL (pa_cons (pv 6) pa_nil)))
        (pss_cons (ps_set (i := 8) sc_law.nd rfl (Or.inl rfl) (pe_op op_mod (pe_ok (ok_mix T) (hr.mono (by decide)) passL (pa_cons (pv 6) (pa_cons pe_int pa_nil))) pe_int))
        (pss_cons (ps_set (i := 9) sc_law.nd rfl (Or.inl rfl) (pe_ix ix_str pe_str (pe_op op_mod (pe_ok (ok_mix T) (hr.mono (by decide)) passL (pa_cons (pv 6) (pa_cons pe_int pa_nil))) pe_int) (fun _ _ => rfl)))
        (pss_cons (ps_set (i := 10) sc_law.nd rfl (Or.inl rfl) (pe_op op_mod (pe_ok (ok_mix T) (hr.mono (by decide)) passL (pa_cons (pv 6) (pa_cons pe_int pa_nil))) pe_int))
        (pss_cons (ps_set (i := 11) sc_law.nd rfl (Or.inl rfl) (pe_ix ix_list (pe_lst (pa_cons (pe_op op_add_str (pe_op op_add_str (pe_op op_add_str pe_str (pv 7)) pe_str) (pv 9)) (pa_cons (pe_op op_add_str (pe_op op_add_str (pe_op op_add_str pe_str (pv 7)) pe_str) (pv 9)) pa_nil))) (pv 10) (fun _ _ => rfl)))
        (pss_cons (ps_if (pt_cmpR op_ne (pe_ok (ok_said T) (hr.mono (by decide)) passL (pa_cons (pe_ix ix_list (pv 1) (pv 8) (fun _ _ => rfl)) (pa_cons (pv 11) pa_nil))) (pe_ix ix_list (pe_lst (pa_cons pe_str (pa_cons pe_str pa_nil))) (pe_callTy call_int1 (by rfl) T.b_int (by decide +kernel) (pa_cons (pe_ok (ok_lis_name T) (hr.mono (by decide)) passL (pa_cons (pv 7) pa_nil)) pa_nil)) (fun _ _ => rfl)) (nomark _)) (pss_one (ps_ret pe_bl)) pss_nil)
        (pss_cons (ps_if (pt_val (pe_ok (ok_lis_name T) (hr.mono (by decide)) passL (pa_cons (pv 7) pa_nil))) (pss_one (ps_dput hu (pe_ix ix_list (pv 2) (pv 8) (fun _ _ => rfl)) (pv 7) (pe_tup (pa_cons (pe_ix ix_list (pe_lst (pa_cons pe_str (pa_cons pe_str pa_nil))) (pv 10) (fun _ _ => rfl)) (pa_cons (pv 9) pa_nil))) rfl)) pss_nil)
        (pss_cons (ps_expr (pe_bm PySem.F.plainAttrs_list PySem.F.slot_list_append PySem.F.type_list_append mt_append (pv 3) (pa_cons (pv 7) pa_nil)))
        (pss_one (ps_for (passes_of rfl) rfl (pi_list (pe_lst (pa_cons (pv 7) (pa_cons (pe_ix ix_list (pv 3) (pe_op op_mod (pe_ok (ok_mix T) (hr.mono (by decide)) passL (pa_cons (pv 6) (pa_cons pe_int pa_nil))) (pe_callB call_len_seq (by rfl) T.b_len PySem.boot_len (pa_cons (pv 3) pa_nil))) (fun _ _ => rfl)) pa_nil)))) (pg_name (i := 12) sc_law.nd rfl (Or.inl rfl))
          (pss_one (ps_for (passes_of rfl) rfl (pi_range1 (by rfl) T.b_range (pa_cons pe_int pa_nil)) (pg_name (i := 13) sc_law.nd rfl (Or.inl rfl))
            (pss_one (ps_if (pw_and (pt_val (pe_ok (ok_lis_name T) (hr.mono (by decide)) passL (pa_cons (pv 12) pa_nil))) (pw_and1 (pt_not (pt_val (pe_ok (ok_lshown T) hr passL (pa_cons (pe_ix ix_list (pv 1) (pv 13) (fun _ _ => rfl)) (pa_cons (pe_ix ix_list (pv 2) (pv 13) (fun _ _ => rfl)) (pa_cons (pv 12) pa_nil)))))))).pt (pss_one (ps_ret pe_bl)) pss_nil))))))))))))))))
      (pss_one (ps_ret pe_bl))))), ?_⟩
    obtain ⟨a, ns, rfl, ha, hn, kk⟩ := h
    refine fun p0 x0 hp0 hx0 ne0 => ⟨p0, x0, rfl, upd_same, fun H1 d0 y1 hd0 D0 => ⟨rfl, fun p1 x1 hp1 hx1 ne1 => ⟨p1, x1, rfl, upd_same, fun H2 d1 y2 hd1 D1 => ⟨rfl, ?_⟩⟩⟩⟩
    have e1 : Ext H H1 := made_ext hp0 hx0 y1
    have e2 : Ext H1 H2 := made_ext hp1 hx1 y2
    have nd : d0 ≠ d1 := fun z => by
      have h1 := ((Ext.new (o := .own p1) hx1).trans (Ext.new (o := .ins (He.ga K "Desk") x1 []) (by rw [upd_ne ne1.symm]; exact hp1))) _ _ D0.dict
      rw [z] at h1
      exact nomatch h1.symm.trans hd1
    refine ⟨big_of (by show 2 ≤ _; decide), fun D hD => ?_⟩
    refine fun k0 hk0 k1 hk1 => ⟨big_of (by show 2 ≤ _; decide), fun KK hKK => ⟨big_of (by show 1 ≤ _; decide), fun N hN => ?_⟩⟩
    have a1 := Ext.new (o := .lst [.ref p0, .ref p1]) hD
    have a2 := Ext.new (o := .dK []) hk0
    have a3 := Ext.new (o := .dK []) hk1
    have a4 := Ext.new (o := .lst [.ref k0, .ref k1]) hKK
    have a5 := Ext.new (o := .lst [.str "x"]) hN
    have cut := cut20 ns
    refine ⟨_, rfl, _, rfl, a, _, rfl, sql_ext ha (((((((e1.trans e2).trans a1).trans a2).trans a3).trans a4).trans a5)), fun S hS => ⟨big_of (by show 2 ≤ _; decide), fun B hB => ⟨S, B, _, _, rfl, rfl, (Ext.new hB) _ _ upd_same, upd_same, big_of (by have := cut.2; show _ + 2 ≤ _; omega), fun W hW => ⟨W, _, rfl, SqL.of upd_same, ?_⟩⟩⟩⟩
    have a6 := Ext.new (o := .lst (cutV (ns.map V.int) none (some 20))) hS
    have a7 := Ext.new (o := .lst [V.int 0, V.int 1]) hB
    have a8 := new2 (o := .lst (cutV (ns.map V.int) none (some 20) ++ [V.int 0, V.int 1])) hW
    revert a8
    generalize upd _ W _ = H10
    rintro ⟨a8, fW⟩
    have fD := a2 _ _ (upd_same (H := H2) (a := D) (o := .lst [.ref p0, .ref p1]))
    have fD := a7 _ _ (a6 _ _ (a5 _ _ (a4 _ _ (a3 _ _ fD))))
    have fk0 := a7 _ _ (a6 _ _ (a5 _ _ (a4 _ _ (a3 _ _ (upd_same (a := k0) (o := .dK []))))))
    have fk1 := a7 _ _ (a6 _ _ (a5 _ _ (a4 _ _ (upd_same (a := k1) (o := .dK [])))))
    have fKK := a7 _ _ (a6 _ _ (a5 _ _ (upd_same (a := KK) (o := .lst [.ref k0, .ref k1]))))
    have fN := a7 _ _ (a6 _ _ (upd_same (a := N) (o := .lst [.str "x"])))
    have a17 := (((((a1.trans a2).trans a3).trans a4).trans a5).trans a6).trans a7
    have I0 : LInv K H10 D KK N W (cutV (ns.map V.int) none (some 20) ++ [V.int 0, V.int 1]) 0 (pk p0 p1) (pk d0 d1) (pk k0 k1) (fun _ => []) (fun _ => []) [[120]] := by
      refine ⟨a8 _ _ fD, a8 _ _ fKK, by rw [a8 _ _ fN, c_x]; rfl, fW, lt2 (D0.ext (e2.trans (a17.trans a8))) (D1.ext (a17.trans a8)), lt2 ⟨a8 _ _ fk0, fun _ z => nomatch z⟩ ⟨a8 _ _ fk1, fun _ z => nomatch z⟩, fun _ _ => ⟨Nat.zero_le _, Nat.zero_le _⟩, fun i j hi hj => ?_, nd, ?_, ne_fresh fN hW, ?_, ?_, fun l hl => ?_, by simp, by simp⟩
      · have q0 := e2 _ _ D0.dict
        have q1 := D1.dict
        have g0 := a1 _ _ q0
        have g1 := a1 _ _ q1
        revert i j
        refine fun i j hi hj => ?_
        have w1 := ne_fresh g0 hk0
        have w2 := ne_fresh g1 hk0
        have w3 := ne_fresh (a2 _ _ g0) hk1
        have w4 := ne_fresh (a2 _ _ g1) hk1
        exact lt2 (M := fun i => pk d0 d1 i ≠ pk k0 k1 j) (lt2 (M := fun j => pk d0 d1 0 ≠ pk k0 k1 j) w1 w3 j hj) (lt2 (M := fun j => pk d0 d1 1 ≠ pk k0 k1 j) w2 w4 j hj) i hi
      · exact ne_fresh upd_same hk1
      · exact (ne_fresh (a4 _ _ (a3 _ _ (a2 _ _ upd_same))) hN).symm
      · exact (ne_fresh upd_same hN).symm
      · rw [List.mem_singleton] at hl
        subst hl
        exact nm_c (by decide +kernel)
    have hws := cut.1
    have hwl : (cutV (ns.map V.int) none (some 20) ++ [V.int 0, V.int 1]).length ≤ 1002 := by
      have := cut.2
      rw [List.length_append]
      show _ + 2 ≤ _
      omega
    revert I0 hws hwl
    generalize cutV (ns.map V.int) none (some 20) ++ [V.int 0, V.int 1] = ws
    intro I0 hws hwl
    generalize pk p0 p1 = p at I0
    generalize pk d0 d1 = d at I0
    generalize pk k0 k1 = k at I0
    clear a8 fW fN fKK fk1 fk0 fD a17 a7 a6 hW hB hS cut a5 a4 a3 a2 a1 hN hKK hk1 hk0 hD
    refine for_it (walk_enum (K := K) (a := W) (xs := ws)) (fun i σ H1 => ∃ nm kp ls v4 v5 v6 v7 v8 v9 v10 v11 v12 v13, σ = [some (.ref a), some (.ref D), some (.ref KK), some (.ref N), v4, v5, v6, v7, v8, v9, v10, v11, v12, v13] ∧ LInv K H1 D KK N W ws i p d k nm kp ls ∧ ∀ j, j < 2 → SameK (kp j) (nm j))
      ⟨_, _, _, _, _, _, _, _, _, _, _, _, _, rfl, I0, fun _ _ _ => rfl⟩ (fun i σ H1 _ pp => ?_) (fun i y σ Ha H1 hi pp yy => ?_) (fun σ H1 pp => ?_)
    · obtain ⟨nm, kp, ls, _, _, _, _, _, _, _, _, _, _, rfl, I, _⟩ := pp
      exact SqL.of I.hW
    · obtain ⟨nm, kp, ls, v4, v5, v6, v7, v8, v9, v10, v11, v12, v13, rfl, I, hs⟩ := pp
      obtain ⟨Tp, u, z, rfl, hT, rfl, hu2, hz⟩ := yy
      cases hu2
      obtain ⟨n, rfl⟩ := hws z (List.mem_of_getElem? hz)
      have hiw : i < 1002 := by omega
      have hsm := fun j hj => I.small j hj
      have I1 := I.ext (Ext.new (o := .tup [V.int (i : Nat), V.int n]) hT)
      refine ⟨Tp, _, rfl, SqT.of upd_same, rfl, _, _, rfl, _, _, rfl, rfl, ?_⟩
      revert I1
      generalize upd Ha Tp _ = Hb
      intro I1
      refine ⟨_, rfl, _, rfl, n, (i : Int), rfl, fun dr hdr => ⟨_, rfl, _, rfl, fun l Hc hl xc => ?_⟩⟩
      have I2 := I1.ext xc
      refine ⟨_, rfl, _, 8, rfl, fun i8 hi8 => ⟨_, _, rfl, rfl, (by show (0 : Int) < 2; decide), ?_⟩⟩
      obtain ⟨at8, hat, e8⟩ := mod_N (x := (i8 : Int)) (m := 2) (by decide)
      have e8 : (i8 : Int) % 2 = (at8 : Int) := e8
      dsimp only
      rw [e8]
      refine ⟨_, rfl, _, 9, rfl, fun i9 hi9 => ⟨_, _, rfl, rfl, (by show (0 : Int) < 6; decide), ?_⟩⟩
      obtain ⟨j9, hj9, e9⟩ := mod_N (x := (i9 : Int)) (m := 6) (by decide)
      have e9 : (i9 : Int) % 6 = (j9 : Int) := e9
      dsimp only
      rw [e9]
      obtain ⟨hx1, hx2, hx3, hx4⟩ := lo6 ⟨j9, hj9⟩
      dsimp only at hx1 hx2 hx3 hx4
      generalize loX j9 = x at hx1 hx2 hx3 hx4
      refine ⟨"abcdef", _, cp x, rfl, rfl, big_of (by decide), atI_nat hx1, ?_⟩
      refine ⟨_, rfl, _, 10, rfl, fun i10 hi10 => ⟨_, _, rfl, rfl, (by show (0 : Int) < 2; decide), ?_⟩⟩
      obtain ⟨way, hway, e10⟩ := mod_N (x := (i10 : Int)) (m := 2) (by decide)
      have e10 : (i10 : Int) % 2 = (way : Int) := e10
      dsimp only
      rw [e10]
      have hl40 := hl.2.1
      have rc := row_club (c := cp x) hl ⟨hx3, hx4⟩
      have rs := row_sending (c := cp x) hl ⟨hx3, hx4⟩
      have s1 : ("club " : Str).length = 5 := by decide +kernel
      have s2 : (" " : Str).length = 1 := by decide +kernel
      have s3 : ("sending " : Str).length = 8 := by decide +kernel
      have s4 : (" 6 " : Str).length = 3 := by decide +kernel
      refine ⟨_, rfl, _, _, rfl, rfl, by rw [s1, tS_len]; exact big_of (by omega), _, _, rfl, rfl, by rw [c_club2, cat_S, s2, tS_len]; exact big_of (by simp; omega), _, rfl, _, _, rfl, rfl, by rw [c_club2, c_b, cat_S, cat_S, tS_len]; exact big_of (by show _ + 1 ≤ _; simp; omega),
        _, rfl, _, _, rfl, rfl, by rw [s3, tS_len]; exact big_of (by omega), _, _, rfl, rfl, by rw [c_sending2, cat_S, s4, tS_len]; exact big_of (by simp; omega), _, rfl, _, _, rfl, rfl, by rw [c_sending2, c_62, cat_S, cat_S, tS_len]; exact big_of (by show _ + 1 ≤ _; simp; omega),
        big_of (by show 2 ≤ _; decide), fun R hR => ?_⟩
      obtain ⟨b, row, hb, hrow, hat2⟩ : ∃ (b : Bool) (row : Str), (∀ u v : V, atI [u, v] (way : Int) = some (if b = true then u else v)) ∧ RowOk row (tellW b (tS l) x) ∧ V.str row = (if b = true then V.str ("club " ++ tS l ++ " " ++ tS [cp x]) else V.str ("sending " ++ tS l ++ " 6 " ++ tS [cp x])) := by
        have : way = 0 ∨ way = 1 := by omega
        rcases this with rfl | rfl
        · exact ⟨true, _, fun u v => rfl, rc, rfl⟩
        · exact ⟨false, _, fun u v => rfl, rs, rfl⟩
      refine ⟨_, rfl, R, _, _, V.str row, rfl, rfl, SqL.of upd_same, (hb _ _).trans (congrArg some hat2.symm), ?_⟩
      have I3 := I2.ext (Ext.new (o := .lst [V.str ("club " ++ tS l ++ " " ++ ⟨#[cp x]⟩), V.str ("sending " ++ tS l ++ " 6 " ++ ⟨#[cp x]⟩)]) hR)
      revert I3
      generalize upd Hc R _ = Hd
      intro I3
      have atp : ∀ f : Nat → Addr, atI [V.ref (f 0), V.ref (f 1)] (at8 : Int) = some (V.ref (f at8)) := fun f => by
        have : at8 = 0 ∨ at8 = 1 := by omega
        rcases this with rfl | rfl <;> rfl
      have D3 := I3.desk at8 hat
      refine ⟨_, rfl, _, rfl, D, _, _, _, rfl, rfl, SqL.of I3.hD, atp p, _, rfl, p at8, d at8, nm at8, row, rfl, D3, by have := (hsm at8 hat).1; omega, hrow.1, hrow.2.1, by rw [hrow.2.2.1]; exact hrow.2.2.2, ?_⟩
      rw [hrow.2.2.1]
      refine say_told rfl hx2 (by omega) D3 fun He nm' t y4 D4 en => ?_
      have hnl' : nm'.length ≤ i + 1 := by
        have h1 := (hsm at8 hat).1
        rw [en]
        split
        · have := putA_len (nm at8) (tS l) (t, (b, x))
          omega
        · omega
      have I4 := I3.said hat y4 D4 hnl'
      refine ⟨big_of (by show 2 ≤ _; decide), fun R2 hR2 => ⟨_, rfl, l, rfl, hl, fun Hf xf => .inr ⟨_, rfl, R2, _, _, V.str (if isNm l = true then "ok" else "norow"), rfl, rfl, SqL.of (xf _ _ upd_same), by cases isNm l <;> rfl, rfl, _, rfl, ?_⟩⟩⟩
      have I5 := (I4.ext (Ext.new (o := .lst [V.str "norow", V.str "ok"]) hR2)).ext xf
      rw [decide_eq_true rfl]
      refine ⟨_, rfl, l, rfl, hl, fun Hg xg => ⟨_, rfl, ?_⟩⟩
      have I6 := I5.ext xg
      show if isNm l = true then _ else _
      by_cases hnm : isNm l = true
      case' pos =>
        rw [if_pos hnm] at en ⊢
        refine ⟨big_of (by show 2 ≤ _; decide), fun R3 hR3 => ⟨_, rfl, R3, _, _, V.str (if b = true then "club" else "sending"), rfl, rfl, SqL.of upd_same, (hb _ _).trans (by cases b <;> rfl), _, rfl, big_of (by show 2 ≤ _; decide), fun t3 ht3 => ?_⟩⟩
        have I7 := (I6.ext (Ext.new (o := .lst [V.str "club", V.str "sending"]) hR3)).ext (Ext.new (o := .tup [V.str (if b = true then "club" else "sending"), V.str ⟨#[cp x]⟩]) ht3)
        refine ⟨_, rfl, _, rfl, KK, _, _, _, rfl, rfl, SqL.of I7.hK, atp k, _, rfl, k at8, _, rfl, DPut.k (k := kS (tS l)) (I7.kept at8 hat).dict (by rw [encD_len]; have := (hsm at8 hat).2; exact big_lt (by omega)), ?_⟩
        have ep : putK (kvP (kp at8)) (kS (tS l)) (.ref t3) = kvP (putA (kp at8) (tS l) (t3, (b, x))) := put_enc (g := kpV) kS_inj (tS l) (t3, (b, x)) (kp at8)
        rw [ep]
        have I8 := I7.put (z := tS l) (b := b) (x := x) hat (hsm at8 hat).2 upd_same
        have hs8 : ∀ j, j < 2 → SameK (up kp at8 (putA (kp at8) (tS l) (t3, (b, x))) j) (up nm at8 nm' j) := fun j hj => by
          by_cases e : j = at8
          · subst e
            rw [up_same, up_same, en]
            exact (hs j hj).put _ _ _ _
          · rw [up_ne e, up_ne e]
            exact hs j hj
        clear I7 ep
        revert I8 hs8
        generalize up kp at8 (putA (kp at8) (tS l) (t3, (b, x))) = kp'
        generalize upd _ (k at8) _ = Hh
        intro I8 hs8
      case' neg =>
        rw [if_neg hnm] at en ⊢
        have hs8 : ∀ j, j < 2 → SameK (kp j) (up nm at8 nm' j) := fun j hj => by
          by_cases e : j = at8
          · subst e
            rw [up_same, en]
            exact hs j hj
          · rw [up_ne e]
            exact hs j hj
        have I8 := I6
        clear I6
        revert I8 hs8
        generalize kp = kp'
        generalize Hg = Hh
        intro hs8 I8
      all_goals
        generalize up nm at8 nm' = nmN at I8 hs8
        have hlen9 := I.len
        refine ⟨_, rfl, .inl ⟨rfl, _, SqL.of I8.hN⟩, _, rfl, N, _, _, rfl, rfl, I8.hN, by rw [List.length_map]; exact big_lt (by omega), ?_⟩
        have I9 := I8.app hl hlen9
        revert I9
        generalize upd Hh N _ = Hi
        intro I9
        have hlp : 0 < ((ls ++ [l]).map fun l => V.str (tS l)).length := by simp
        refine ⟨_, rfl, _, rfl, _, rfl, dr, 11, rfl, fun i11 hi11 => ⟨_, rfl, N, _, rfl, .inl (SqL.of I9.hN), _, _, rfl, rfl, (by show (0 : Int) < ((((ls ++ [l]).map fun l => V.str (tS l)).length : Nat) : Int); omega), ?_⟩⟩
        obtain ⟨j11, hj11, e11⟩ := mod_N (x := (i11 : Int)) (m := ((ls ++ [l]).map fun l => V.str (tS l)).length) hlp
        dsimp only
        rw [e11]
        obtain ⟨l2, hl2⟩ : ∃ l2, (ls ++ [l])[j11]? = some l2 := ⟨_, List.getElem?_eq_getElem (by rw [List.length_map] at hj11; exact hj11)⟩
        have hl2n := I9.nms l2 (List.mem_of_getElem? hl2)
        refine ⟨N, _, _, V.str (tS l2), rfl, rfl, SqL.of I9.hN, atI_nat (by rw [List.getElem?_map, hl2]; rfl), big_of (by show 2 ≤ _; decide), fun LL hLL => ⟨LL, rfl, ⟨_, SqL.of upd_same⟩, ?_⟩⟩
        have I10 := I9.ext (Ext.new (o := .lst [V.str (tS l), V.str (tS l2)]) hLL)
        have fLL := upd_same (H := Hi) (a := LL) (o := .lst [V.str (tS l), V.str (tS l2)])
        revert I10 fLL
        generalize upd Hi LL _ = Hj
        intro I10 fLL
        refine for_it (D := { nx := fun σ H1 => ∃ nm kp ls v4 v5 v6 v7 v8 v9 v10 v11 v12 v13, σ = [some (.ref a), some (.ref D), some (.ref KK), some (.ref N), v4, v5, v6, v7, v8, v9, v10, v11, v12, v13] ∧ LInv K H1 D KK N W ws (i + 1) p d k nm kp ls ∧ ∀ j, j < 2 → SameK (kp j) (nm j), rt := Q }) (walk_list (K := K) (a := LL) (xs := [V.str (tS l), V.str (tS l2)])) (fun _ σ H1 => ∃ v12 v13, σ = [some (.ref a), some (.ref D), some (.ref KK), some (.ref N), some (vN i), some (.int n), some (vN dr), some (.str (tS l)), some (vN at8), some (.str ⟨#[cp x]⟩), some (vN way), some (.str row), v12, v13] ∧ LInv K H1 D KK N W ws (i + 1) p d k nmN kp' (ls ++ [l]) ∧ H1 LL = some (.lst [V.str (tS l), V.str (tS l2)]))
          ⟨_, _, rfl, I10, fLL⟩ (fun i2 σ H1 _ pp => ?_) (fun i2 y2 σ Ha2 H1 hi2 pp yy2 => ?_) (fun σ H1 pp => ?_)
        · obtain ⟨_, _, _, _, f⟩ := pp
          exact SqL.of f
        · obtain ⟨v12, v13, rfl, I11, f11⟩ := pp
          obtain ⟨rfl, hy2⟩ := yy2
          obtain ⟨q, rfl, hq⟩ : ∃ q, y2 = V.str (tS q) ∧ NmOk q := by
            have := List.mem_of_getElem? hy2
            simp only [List.mem_cons, List.not_mem_nil, or_false] at this
            rcases this with rfl | rfl
            · exact ⟨_, rfl, hl⟩
            · exact ⟨_, rfl, hl2n⟩
          refine ⟨_, rfl, by decide, by decide, ?_⟩
          refine for_it (D := { nx := fun σ H1 => ∃ v12 v13, σ = [some (.ref a), some (.ref D), some (.ref KK), some (.ref N), some (vN i), some (.int n), some (vN dr), some (.str (tS l)), some (vN at8), some (.str ⟨#[cp x]⟩), some (vN way), some (.str row), v12, v13] ∧ LInv K H1 D KK N W ws (i + 1) p d k nmN kp' (ls ++ [l]) ∧ H1 LL = some (.lst [V.str (tS l), V.str (tS l2)]), rt := Q }) (walk_range (lo := 0) (n := 2)) (fun _ σ H1 => ∃ v13, σ = [some (.ref a), some (.ref D), some (.ref KK), some (.ref N), some (vN i), some (.int n), some (vN dr), some (.str (tS l)), some (vN at8), some (.str ⟨#[cp x]⟩), some (vN way), some (.str row), some (.str (tS q)), v13] ∧ LInv K H1 D KK N W ws (i + 1) p d k nmN kp' (ls ++ [l]) ∧ H1 LL = some (.lst [V.str (tS l), V.str (tS l2)]))
            ⟨_, rfl, I11, f11⟩ (fun _ _ _ _ _ => True.intro) (fun i3 y3 σ Ha3 H1 hi3 pp yy3 => ?_) (fun σ H1 pp => ?_)
          · obtain ⟨v13, rfl, I12, f12⟩ := pp
            obtain ⟨rfl, rfl⟩ := yy3
            refine ⟨_, rfl, q, rfl, hq, fun Hk xk => ⟨_, rfl, ?_⟩⟩
            have I13 := I12.ext xk
            have f13 := xk _ _ f12
            show if isNm q = true then _ else _
            by_cases hnq : isNm q = true
            · rw [if_pos hnq]
              have atq : ∀ f : Nat → Addr, atI [V.ref (f 0), V.ref (f 1)] (0 + (i3 : Int)) = some (V.ref (f i3)) := fun f => by
                have : i3 = 0 ∨ i3 = 1 := by omega
                rcases this with rfl | rfl <;> rfl
              refine ⟨_, rfl, _, rfl, D, _, _, _, rfl, rfl, SqL.of I13.hD, atq p, _, rfl, _, rfl, KK, _, _, _, rfl, rfl, SqL.of I13.hK, atq k, _, rfl, p i3, d i3, k i3, nmN i3, kp' i3, q, rfl, I13.desk i3 hi3, I13.kept i3 hi3, hs8 i3 hi3, hq, by have := (I13.small i3 hi3).1; omega, fun Hm xm => ⟨_, rfl, ?_⟩⟩
              exact ⟨_, rfl, I13.ext xm, xm _ _ f13⟩
            · rw [if_neg hnq]
              exact ⟨_, rfl, I13, f13⟩
          · obtain ⟨v13, rfl, I12, f12⟩ := pp
            exact ⟨_, _, rfl, I12, f12⟩
        · obtain ⟨_, _, rfl, I11, f11⟩ := pp
          exact ⟨_, _, _, _, _, _, _, _, _, _, _, _, _, rfl, I11, hs8⟩
    · obtain ⟨nm, kp, ls, _, _, _, _, _, _, _, _, _, _, rfl, I, _⟩ := pp
      exact kk _
end
end BW


set_option Elab.async false
set_option linter.all false
set_option maxRecDepth 100000
set_option maxHeartbeats 0
namespace BW
open PySem PySem.Spec PyProof.Rows L2 BwR BwE BwD BwS
theorem law_facts {w : World} {K : PySem.W.Frag} {h : Heap} {mg : Str → Option Value} {f : Addr} (X : K.In h) (G : h.Ns mainGlobals mg) (hfa : mg ("law" : Str) = some (.ref f)) (ce : (exs K).all id = true) (c : He.SaysD fas fns K) :
    ∃ fd : FuncData, (∀ (s : Shared) (v : Value), BindsTo s fd ⟨[v], []⟩ [("_law_script", v)]) ∧ ∀ base : Heap, FnOk R.prog w K mg base (L2.CX R.prog w) 15 f fd ["_law_script"] (sp_law K) := by
  have T := txt_of X G ce c
  obtain ⟨f1, fd, F, g⟩ := T.f_law_law
  cases hfa.symm.trans g
  have b := FunD.bindsA (ps := ["_law_script"]) F fun _ _ _ _ _ _ us hl => match us, hl with | [_], _ => rfl
  exact ⟨fd, fun s v => b s [v] rfl, fun base => ok_law T F⟩
end BW
open PySem PySem.W PySem.Calls PyProof.Rows
theorem PySem.Challenge.cw_backwords_k96_two_desks_holds : PySem.Challenge.rw_backwords_k96_two_desks.Holds := by
  w_on; o_law
  refine HandSHeadRun.head_any (r := OpenLaw.row PySem.Challenge.rw_backwords_k96_two_desks) (q := view (OpenLaw.row PySem.Challenge.rw_backwords_k96_two_desks).prog [130]) (H := BW.hk) (ob := BW.ob) (M := 60000) (loose := BW.names) (d := HandSHeadRun.topDef (OpenLaw.row PySem.Challenge.rw_backwords_k96_two_desks).prog 130) (kwd := []) BW.ob_eq
    (by kernel_rfl) (fun s => by kernel_rfl) BW.run (by kernel_rfl) (by kernel_rfl) (by kernel_rfl) (by rfl) (by first | assumption | decide +kernel) (by decide +kernel) ⟨rfl, rfl, rfl, rfl, rfl, by decide +kernel⟩ ?hw ?hc
  case hw => w_witness2
  case hc =>
    refine LamX.walk_ofTsE (l := PySem.Challenge.rw_backwords_k96_two_desks) (n := 63) (k := 15) (x := "_law_script") (CX := fun w => L2.CX (OpenLaw.row PySem.Challenge.rw_backwords_k96_two_desks).prog w) rfl (by decide) (by kernel_rfl) ⟨rfl, by decide, by decide⟩ ?F (fun _ _ _ _ _ ⟨_, _, _, _, _, _, _, _, _, _, _, _, z⟩ => z)
    intro w mg fa h Y G hmg0
    obtain ⟨K, KX, ce, c⟩ := Y
    have hmg : mg ("law" : PySem.Str) = some (.ref fa) := by
      have e : (HandSHeadRun.topDef (OpenLaw.row PySem.Challenge.rw_backwords_k96_two_desks).prog 130).name = ("law" : PySem.Str) := by kernel_rfl
      rw [← e]
      exact hmg0
    obtain ⟨fd, hb, hF⟩ := BW.law_facts (w := w) KX G hmg ce c
    exact ⟨K, KX, fd, [], BW.sp_law K, (fun _ z => nomatch z), (fun _ z => nomatch z), (fun _ z => nomatch z), hb, fun H a ns hl _ _ hS => ⟨a, ns, rfl, hS, by omega, fun _ => rfl⟩, fun base _ _ _ => hF base⟩

