import PyProof.Rows.All
import Wide.All
import OpenK.AllK
import Wide.FinOn
import Open.SpecLaws
import KE.OsGo
import HandS.ForSpec
import HandS.ForMost
import HandS.TryMany
import HandS.Flow
import HandS.Zip
import HandS.TupLe
import KE.KDictZip
import KE.KDictList
import HandS.Conv
import HandS.DictTup
import HandS.ExcSuper
import HandS.Walk
import YqswjaNeutral
import KE.DataCmp
import KE.KDictKeyed
import HandS.Style
import PySem.Challenge.RW_judgedrules_s04_agree
set_option Elab.async false
set_option linter.all false
set_option maxRecDepth 100000
set_option maxHeartbeats 2000000
namespace Ag
open PySem PySem.Spec PyProof.Rows L2
/-- the i-th statement of the text -/
def top (i : Nat) : Stmt := PySem.Challenge.pw_judgedrules_s04_agree.main.body.getD i (.Pass ⟨0, 0, 0, 0⟩)
abbrev sLetter : Stmt := top 7
abbrev sWordOf : Stmt := top 8
abbrev sIsName : Stmt := top 9
abbrev sAreNames : Stmt := top 10
abbrev sBrokenInit : Stmt := inClass (top 23) 0
abbrev sValueInit : Stmt := inClass (top 24) 0
abbrev sCursorInit : Stmt := inClass (top 25) 0
abbrev sByte : Stmt := inClass (top 25) 1
abbrev sVarying : Stmt := inClass (top 25) 2
abbrev sSpan : Stmt := inClass (top 25) 3
abbrev sTailOf : Stmt := top 26
abbrev sPastSign : Stmt := top 27
abbrev sCheckText : Stmt := top 28
abbrev sReadNumber : Stmt := top 29
abbrev sReadCodes : Stmt := top 30
abbrev sReadName : Stmt := top 31
abbrev sReadHead : Stmt := top 32
abbrev sDecode : Stmt := top 33
abbrev sTextWord : Stmt := top 34
abbrev sShapeOf : Stmt := top 35
abbrev sVaryingBytes : Stmt := top 37
abbrev sNameBytes : Stmt := top 38
abbrev sTextBytes : Stmt := top 39
abbrev sRecordHead : Stmt := top 40
abbrev sKindsInit : Stmt := inClass (top 44) 0
abbrev sPut : Stmt := inClass (top 44) 1
abbrev sBelow : Stmt := inClass (top 44) 3
abbrev sJoined : Stmt := inClass (top 44) 4
abbrev sCommon : Stmt := inClass (top 44) 5
abbrev sPiecesOf : Stmt := top 45
abbrev sToldBytes : Stmt := top 46
abbrev sIsTold : Stmt := top 47
abbrev sToldMembers : Stmt := top 48
abbrev sToldRow : Stmt := top 49
abbrev sReadTold : Stmt := top 50
abbrev sValueOrNone : Stmt := top 57
abbrev sAgree : Stmt := top 58
/-- bytes as values -/
def bV (b : Sw.Bytes) : List V := b.map fun c => V.int ((c.toNat : Nat) : Int)
/-- bytes as a text of these signs -/
def bS (b : Sw.Bytes) : Str := ⟨(b.map UInt8.toNat).toArray⟩
theorem bV_length (b : Sw.Bytes) : (bV b).length = b.length := by unfold bV; rw [List.length_map]
theorem bV_append (a b : Sw.Bytes) : bV (a ++ b) = bV a ++ bV b := by unfold bV; rw [List.map_append]
theorem sz_eq : sizeLine = 16777216 := by rw [sizeLine_eq]
end Ag

set_option maxRecDepth 100000
set_option maxHeartbeats 4000000
namespace Ag
open PySem PySem.Spec PyProof.Rows L2 RZ
/-! # list(zip(s, t)) of two tuples -/
section
variable {prog : Program} {w : World} {A : Around} {E : Value → Shared → Prop} {s : Shared} {z TI TO T i1 i2 a b : Addr} {g : Bool} {oT : Obj} {n m : Nat} {xs ys : Array Value} {x y : Value}
/-- a further item, while the tuple given out before is still known -/
theorem zh_item {Q : Value → Shared → Prop} (D : ZipApart z TI TO i1 i2 a b) (Z : IsZipHeld s.heap z TI TO T g) (alive : s.heap.get? T = some oT) (P : IsPair s.heap TI (.ref i1) (.ref i2))
    (j1 : s.heap.IsTupleIter i1 a n) (j2 : s.heap.IsTupleIter i2 b m) (ta : s.heap.IsTuple a xs) (tb : s.heap.IsTuple b ys) (hx : xs[n]? = some x) (hy : ys[m]? = some y)
    (fin : ∀ h', IsZipHeld h' z TI TO T true → h'.IsTupleIter i1 a (n + 1) → h'.IsTupleIter i2 b (m + 1) → IsPair h' s.heap.objs.size x y → h'.objs.size = s.heap.objs.size + 1 → (∀ c o, c ≠ z → c ≠ i1 → c ≠ i2 → s.heap.get? c = some o → h'.get? c = some o) → Q (.ref s.heap.objs.size) { s with heap := h' }) :
    wpAny (model prog w) A (Builtin.«zip.__next__» ⟨[.ref z], []⟩) (fun r s' => ∃ v, r = .done (.ret v) ∧ Q v s') E s := by
  refine (show wpAny _ _ (field (.ref z) 2 >>= _) _ _ _ from wpAny_bind (wpAny_field Z rfl (x := .bool false) rfl ?_))
  refine (show wpAny _ _ (field (.ref z) 3 >>= _) _ _ _ from wpAny_bind (wpAny_field Z rfl (x := .ref TI) rfl (wpAny_bind (wpAny_seqItems P rfl ?_))))
  refine (show wpAny _ _ (Builtin.SmallTypes.ownedTupleIsFree (.ref z) >>= _) _ _ _ from wpAny_bind (wpAny_tupleHeld_zip Z alive fun ha Za sa => ?_))
  simp only [Bool.false_eq_true, if_false]
  refine wpAny_bind (by
    rw [← Array.forIn_toList]
    simp only [List.forIn_cons, List.forIn_nil]
    refine wpAny_bind (wpAny_bind (wpAny_holding (show wpAny _ _ (Builtin.SmallTypes.nextOf (.ref i1) >>= _) _ _ _ from wpAny_bind (nextOf_tuple_item (s := { s with heap := ha }) (j1.extBut sa.extBut D.i1z) (ta.extBut sa.extBut D.l1z) hx fun hb j1b sb => wpAny_pure (wpAny_pure ?_)))))
    refine wpAny_bind (wpAny_bind (wpAny_holding (show wpAny _ _ (Builtin.SmallTypes.nextOf (.ref i2) >>= _) _ _ _ from wpAny_bind (nextOf_tuple_item (s := { s with heap := hb }) ((j2.extBut sa.extBut D.i2z).extBut sb.extBut D.i12.symm) ((tb.extBut sa.extBut D.l2z).extBut sb.extBut D.l2i1) hy fun hc j2c sc => wpAny_pure (wpAny_pure (wpAny_pure ?_))))))
    have size : hc.objs.size = s.heap.objs.size := sc.1.trans (sb.1.trans sa.1)
    have Zc : IsZipHeld hc z TI TO T true := sc.extBut _ _ D.i2z.symm (sb.extBut _ _ D.i1z.symm Za)
    have rest : ∀ c o, c ≠ z → c ≠ i1 → c ≠ i2 → s.heap.get? c = some o → hc.get? c = some o := fun c o n1 n2 n3 e => sc.extBut _ _ n3 (sb.extBut _ _ n2 (sa.extBut _ _ n1 e))
    have j1c : hc.IsTupleIter i1 a (n + 1) := j1b.extBut sc.extBut D.i12
    refine (show wpAny _ _ (newTuple [x, y] >>= _) _ _ _ from wpAny_bind (wpAny_newTuple (wpAny_pure ⟨_, rfl, ?_⟩)))
    show Q (.ref hc.objs.size) _
    have pr : IsPair (hc.push { cls := .type "tuple", data := .seq #[x, y] }) hc.objs.size x y := Heap.get?_push_size _ rfl
    have sz : (hc.push { cls := .type "tuple", data := .seq #[x, y] }).objs.size = hc.objs.size + 1 := Heap.size_push ..
    rw [size] at pr sz ⊢
    exact fin _ (Heap.get?_push_of_some _ Zc) (j1c.at fun o e => Heap.get?_push_of_some _ e) (j2c.at fun o e => Heap.get?_push_of_some _ e) pr sz fun c o n1 n2 n3 e => Heap.get?_push_of_some _ (rest c o n1 n2 n3 e))
theorem zh_end {Q : Fin → Shared → Prop} (hh : A.handled = none) (D : ZipApart z TI TO i1 i2 a b) (Z : IsZipHeld s.heap z TI TO T g) (alive : s.heap.get? T = some oT) (P : IsPair s.heap TI (.ref i1) (.ref i2))
    (j1 : s.heap.IsTupleIter i1 a n) (j2 : s.heap.IsTupleIter i2 b m) (ta : s.heap.IsTuple a xs) (tb : s.heap.IsTuple b ys) (over : xs[n]? = none ∨ ys[m]? = none)
    (out : ∀ h' e, (∀ c o, c ≠ z → c ≠ i1 → c ≠ i2 → s.heap.get? c = some o → h'.get? c = some o) → (∃ o, h'.get? e = some o ∧ o.cls = .type "StopIteration") → E (.ref e) { s with heap := h' }) :
    wpAny (model prog w) A (Builtin.«zip.__next__» ⟨[.ref z], []⟩) Q E s := by
  refine (show wpAny _ _ (field (.ref z) 2 >>= _) _ _ _ from wpAny_bind (wpAny_field Z rfl (x := .bool false) rfl ?_))
  refine (show wpAny _ _ (field (.ref z) 3 >>= _) _ _ _ from wpAny_bind (wpAny_field Z rfl (x := .ref TI) rfl (wpAny_bind (wpAny_seqItems P rfl ?_))))
  refine (show wpAny _ _ (Builtin.SmallTypes.ownedTupleIsFree (.ref z) >>= _) _ _ _ from wpAny_bind (wpAny_tupleHeld_zip Z alive fun ha Za sa => ?_))
  simp only [Bool.false_eq_true, if_false]
  refine wpAny_bind (by
    rw [← Array.forIn_toList]
    simp only [List.forIn_cons, List.forIn_nil]
    by_cases q : xs[n]? = none
    · exact wpAny_bind (wpAny_bind (wpAny_holding (show wpAny _ _ (Builtin.SmallTypes.nextOf (.ref i1) >>= _) _ _ _ from wpAny_bind (nextOf_tuple_end (s := { s with heap := ha }) hh (j1.extBut sa.extBut D.i1z) (ta.extBut sa.extBut D.l1z) q fun hb e sb he =>
        out hb e (fun c o n1 n2 _ r => sb _ _ n2 (sa.extBut _ _ n1 r)) he))))
    · obtain ⟨x, hx⟩ := Option.ne_none_iff_exists'.mp q
      have hy : ys[m]? = none := over.resolve_left q
      refine wpAny_bind (wpAny_bind (wpAny_holding (show wpAny _ _ (Builtin.SmallTypes.nextOf (.ref i1) >>= _) _ _ _ from wpAny_bind (nextOf_tuple_item (s := { s with heap := ha }) (j1.extBut sa.extBut D.i1z) (ta.extBut sa.extBut D.l1z) hx fun hb j1b sb => wpAny_pure (wpAny_pure ?_)))))
      exact wpAny_bind (wpAny_bind (wpAny_holding (show wpAny _ _ (Builtin.SmallTypes.nextOf (.ref i2) >>= _) _ _ _ from wpAny_bind (nextOf_tuple_end (s := { s with heap := hb }) hh ((j2.extBut sa.extBut D.i2z).extBut sb.extBut D.i12.symm) ((tb.extBut sa.extBut D.l2z).extBut sb.extBut D.l2i1) hy fun hc e sc he =>
        out hc e (fun c o n1 n2 n3 r => sc _ _ n3 (sb.extBut _ _ n2 (sa.extBut _ _ n1 r))) he)))))
/-- where the zip stands: nothing given out yet, or the tuple given out last still known -/
def ZSt (h : Heap) (z TI TO : Addr) (S : Addr) : Prop := (IsZip h z TI TO .none ∧ ∃ u v, IsPair h TO u v) ∨ ∃ T f oT, IsZipHeld h z TI TO T f ∧ h.get? T = some oT ∧ T ≠ S
theorem ZSt.zip {h : Heap} {S : Addr} (st : ZSt h z TI TO S) : ∃ o, h.get? z = some o ∧ o.cls = .type "zip" := by
  rcases st with ⟨e, _⟩ | ⟨T, f, oT, e, _⟩
  · exact ⟨_, e, rfl⟩
  · exact ⟨_, e, rfl⟩
theorem zn_item {S : Addr} {Q : Option Value → Shared → Prop} (D : ZipApart z TI TO i1 i2 a b) (Z : ZSt s.heap z TI TO S) (hS : S < s.heap.objs.size) (P : IsPair s.heap TI (.ref i1) (.ref i2))
    (j1 : s.heap.IsTupleIter i1 a n) (j2 : s.heap.IsTupleIter i2 b m) (ta : s.heap.IsTuple a xs) (tb : s.heap.IsTuple b ys) (hx : xs[n]? = some x) (hy : ys[m]? = some y)
    (fin : ∀ h', ZSt h' z TI TO S → h'.IsTupleIter i1 a (n + 1) → h'.IsTupleIter i2 b (m + 1) → IsPair h' s.heap.objs.size x y → h'.objs.size = s.heap.objs.size + 1 → (∀ c o, c ≠ z → c ≠ TO → c ≠ i1 → c ≠ i2 → s.heap.get? c = some o → h'.get? c = some o) → Q (some (.ref s.heap.objs.size)) { s with heap := h' }) :
    wpAny (model prog w) A (pyNext (.ref z)) Q E s := by
  rcases Z with ⟨Z, u, v, hTO⟩ | ⟨T, f, oT, Z, alive, hTS⟩
  · exact pyNext_zipT_item D Z P hTO j1 j2 ta tb hx hy fun h' q1 _ q3 q4 q5 q6 q7 => fin h' (.inr ⟨s.heap.objs.size, false, _, q1, q5, Nat.ne_of_gt hS⟩) q3 q4 q5 q6 q7
  · have ty : s.TypeIs (.ref z) "zip" := ⟨_, Z, rfl⟩
    have Tz : T ≠ z ∨ T = z := (Nat.lt_or_ge T z).elim (fun h => .inl (Nat.ne_of_lt h)) fun h => (Nat.eq_or_lt_of_le h).elim (fun e => .inr e.symm) fun h => .inl (Nat.ne_of_gt h)
    unfold pyNext
    refine wpAny_bind (wpAny_attempt (wpAny_callSpecial?_slot (name := Str.ofString "__next__") ty PySem.F.slot_zip_next (wpAny_call_entry PySem.F.slot_zip_next ty PySem.F.entry_zip_next
      (zh_item D Z alive P j1 j2 ta tb hx hy fun h' q1 q3 q4 q5 q6 q7 => wpAny_pure (fin h' ?_ q3 q4 q5 q6 fun c o n1 _ n3 n4 e => q7 c o n1 n3 n4 e)) (PySem.F.args_zip_next_1 _))))
    have there : ∃ o, h'.get? T = some o := by
      by_cases e1 : T = z
      · rw [e1]; exact ⟨_, q1⟩
      by_cases e2 : T = i1
      · rw [e2]; obtain ⟨o, e, _⟩ := q3; exact ⟨_, e⟩
      by_cases e3 : T = i2
      · rw [e3]; obtain ⟨o, e, _⟩ := q4; exact ⟨_, e⟩
      exact ⟨_, q7 T _ e1 e2 e3 alive⟩
    obtain ⟨o, e⟩ := there
    exact .inr ⟨T, true, o, q1, e, hTS⟩
theorem zn_end {S : Addr} {Q : Option Value → Shared → Prop} (hh : A.handled = none) (D : ZipApart z TI TO i1 i2 a b) (Z : ZSt s.heap z TI TO S) (P : IsPair s.heap TI (.ref i1) (.ref i2))
    (j1 : s.heap.IsTupleIter i1 a n) (j2 : s.heap.IsTupleIter i2 b m) (ta : s.heap.IsTuple a xs) (tb : s.heap.IsTuple b ys) (over : xs[n]? = none ∨ ys[m]? = none)
    (fin : ∀ h', (∀ c o, c ≠ z → c ≠ TO → c ≠ i1 → c ≠ i2 → s.heap.get? c = some o → h'.get? c = some o) → Q none { s with heap := h' }) : wpAny (model prog w) A (pyNext (.ref z)) Q E s := by
  rcases Z with ⟨Z, u, v, hTO⟩ | ⟨T, f, oT, Z, alive, hTS⟩
  · exact pyNext_zipT_end hh D Z P hTO j1 j2 ta tb over fin
  · have ty : s.TypeIs (.ref z) "zip" := ⟨_, Z, rfl⟩
    unfold pyNext
    refine wpAny_bind (wpAny_attempt (wpAny_callSpecial?_slot (name := Str.ofString "__next__") ty PySem.F.slot_zip_next (wpAny_call_entry PySem.F.slot_zip_next ty PySem.F.entry_zip_next
      (zh_end hh D Z alive P j1 j2 ta tb over fun h' e q1 q2 => ?_) (PySem.F.args_zip_next_1 _))))
    obtain ⟨o, ho, hc⟩ := q2
    exact wpAny_bind (wpAny_isInstance (T := "StopIteration") (b := true) ⟨o, ho, hc⟩ isSubtype_stop (wpAny_pure (fin _ fun c o n1 _ n3 n4 e => q1 c o n1 n3 n4 e)))
end
theorem past_ne {lo d x : Nat} (h : lo < d) (hx : x ≤ lo) : d ≠ x := fun e => Nat.lt_irrefl _ (Nat.lt_of_lt_of_le h (e ▸ hx))
/-- the pairs that were made, in order -/
structure Prs (xs ys : Array Value) (lo : Addr) (h : Heap) (as : List Addr) : Prop where
  up : as.Pairwise (· < ·)
  hi : ∀ c ∈ as, lo < c
  at_ : ∀ (j : Nat) (c : Addr), as[j]? = some c → ∃ x y, xs[j]? = some x ∧ ys[j]? = some y ∧ IsPair h c x y
theorem Prs.lt {xs ys : Array Value} {lo : Addr} {h : Heap} {as : List Addr} (g : Prs xs ys lo h as) {c : Addr} (hc : c ∈ as) : c < h.objs.size := by
  obtain ⟨j, hj⟩ := List.mem_iff_getElem?.mp hc
  obtain ⟨_, _, _, _, e⟩ := g.at_ j c hj
  exact Heap.lt_size e
section
variable {prog : Program} {w : World} {A : Around} {s : Shared} {R : Result → Shared → Prop} {z TI TO i1 i2 a b : Addr} {xs ys : Array Value}
theorem zloop {S lo : Addr} (hh : A.handled = none) (D : ZipApart z TI TO i1 i2 a b) (l1 : z ≤ lo) (l2 : TO ≤ lo) (l3 : i1 ≤ lo) (l4 : i2 ≤ lo) (l5 : S ≤ lo) (nz : S ≠ z) (nO : S ≠ TO) (n1 : S ≠ i1) (n2 : S ≠ i2) (nI : S ≠ TI) (na : S ≠ a) (nb : S ≠ b)
    (hn : min xs.size ys.size ≤ sizeLine) (res : Value) {h₁ : Heap}
    (fin : ∀ h' acc c as, (∀ d o, d ≠ S → d ≠ z → d ≠ TO → d ≠ i1 → d ≠ i2 → h₁.get? d = some o → h'.get? d = some o) → h'.get? S = some { cls := .type "list", dict := none, data := .seq acc c, slots := #[] } → as.length = min xs.size ys.size → Prs xs ys lo h' as →
      acc.toList = as.map Value.ref → R (.ok (.ret res)) { s with heap := h' }) :
    ∀ (k i : Nat) (h : Heap) (c : Nat) (acc : Array Value) (as : List Addr), min xs.size ys.size - i = k → i ≤ min xs.size ys.size → ZSt h z TI TO S → IsPair h TI (.ref i1) (.ref i2) → h.IsTupleIter i1 a i → h.IsTupleIter i2 b i → h.IsTuple a xs → h.IsTuple b ys →
      (∀ d o, d ≠ S → d ≠ z → d ≠ TO → d ≠ i1 → d ≠ i2 → h₁.get? d = some o → h.get? d = some o) → h.get? S = some { cls := .type "list", dict := none, data := .seq acc c, slots := #[] } → acc.toList = as.map Value.ref → as.length = i → Prs xs ys lo h as → lo < h.objs.size →
      codeAny (model prog w) A (.builtin "list.extend.loop" ⟨[.ref S, .ref z, res], []⟩) R { s with heap := h } := by
  intro k
  induction k with
  | zero =>
    intro i h c acc as hk hi Z P j1 j2 ta tb keep hS hacc hal G hlo
    refine codeAny_builtin PySem.F.entry_extend_loop (by
      rw [Around.under_plainId PySem.F.plain_extend_loop _]
      refine (show wpAny _ A.in1 (pyNext (.ref z) >>= _) _ _ _ from wpAny_bind (zn_end (s := { s with heap := h }) (A := A.in1) hh D Z P j1 j2 ta tb (by
        rcases Nat.lt_or_ge i xs.size with q | q
        · exact .inr (Array.getElem?_eq_none (by omega))
        · exact .inl (Array.getElem?_eq_none q)) fun h' kp => wpAny_pure ?_))
      refine fin h' acc c as (fun d o q1 q2 q3 q4 q5 e => kp d o q2 q3 q4 q5 (keep d o q1 q2 q3 q4 q5 e)) (kp S _ nz nO n1 n2 hS) (by omega) ⟨G.up, G.hi, fun j d hj => ?_⟩ hacc
      obtain ⟨x, y, e1, e2, e3⟩ := G.at_ j d hj
      have hd := G.hi d (List.mem_of_getElem? hj)
      exact ⟨x, y, e1, e2, kp d _ (past_ne hd l1) (past_ne hd l2) (past_ne hd l3) (past_ne hd l4) e3⟩)
  | succ k ih =>
    intro i h c acc as hk hi Z P j1 j2 ta tb keep hS hacc hal G hlo
    have hlt1 : i < xs.size := by omega
    have hlt2 : i < ys.size := by omega
    have sz : acc.size = i := by rw [← Array.length_toList, hacc, List.length_map, hal]
    refine codeAny_builtin PySem.F.entry_extend_loop (by
      rw [Around.under_plainId PySem.F.plain_extend_loop _]
      refine (show wpAny _ A.in1 (pyNext (.ref z) >>= _) _ _ _ from wpAny_bind (zn_item (s := { s with heap := h }) (A := A.in1) D Z (Heap.lt_size hS) P j1 j2 ta tb (Array.getElem?_eq_getElem hlt1) (Array.getElem?_eq_getElem hlt2) fun h' Z' j1' j2' pr hz' kp => ?_))
      dsimp only at pr hz' kp ⊢
      have hS' := kp S _ nz nO n1 n2 hS
      have hSl : S < h.objs.size := Heap.lt_size hS
      have up : ∀ d o, d ≠ S → h'.get? d = some o → (h'.update S (Obj.mapSeq (·.push (Value.ref h.objs.size)))).get? d = some o := fun d o hd e => (Heap.get?_update_other _ _ (Ne.symm hd)).trans e
      have kp2 : ∀ d o, d ≠ S → d ≠ z → d ≠ TO → d ≠ i1 → d ≠ i2 → h.get? d = some o → (h'.update S (Obj.mapSeq (·.push (Value.ref h.objs.size)))).get? d = some o := fun d o q1 q2 q3 q4 q5 e => up d o q1 (kp d o q2 q3 q4 q5 e)
      have Z2 : ZSt (h'.update S (Obj.mapSeq (·.push (Value.ref h.objs.size)))) z TI TO S := by
        rcases Z' with ⟨q1, u, v, q2⟩ | ⟨T, f, oT, q1, q2, q3⟩
        · exact .inl ⟨up _ _ (Ne.symm nz) q1, u, v, up _ _ (Ne.symm nO) q2⟩
        · exact .inr ⟨T, f, oT, up _ _ (Ne.symm nz) q1, up _ _ q3 q2, q3⟩
      have tup : ∀ {d : Addr} {vs : Array Value}, d ≠ S → d ≠ z → d ≠ TO → d ≠ i1 → d ≠ i2 → h.IsTuple d vs → (h'.update S (Obj.mapSeq (·.push (Value.ref h.objs.size)))).IsTuple d vs := fun q1 q2 q3 q4 q5 ⟨o, e, r⟩ => ⟨o, kp2 _ o q1 q2 q3 q4 q5 e, r⟩
      refine (show wpAny _ A.in1 (updateSeq S (·.push (Value.ref h.objs.size)) >>= _) _ _ _ from wpAny_bind (wpAny_updateSeq hS' rfl (wpAny_pure ⟨plainId_quiet PySem.F.plain_extend_loop _, ih (i + 1) _ _ (acc.push (Value.ref h.objs.size)) (as ++ [h.objs.size]) (by omega) (by omega) Z2
        (kp2 _ _ (Ne.symm nI) D.TIz D.TITO D.TIi1 D.TIi2 P) (j1'.at fun o e => up _ o (Ne.symm n1) e) (j2'.at fun o e => up _ o (Ne.symm n2) e) (tup (Ne.symm na) D.l1z D.l1TO D.l1i1 D.l1i2 ta) (tup (Ne.symm nb) D.l2z D.l2TO D.l2i1 D.l2i2 tb)
        (fun d o q1 q2 q3 q4 q5 e => kp2 d o q1 q2 q3 q4 q5 (keep d o q1 q2 q3 q4 q5 e)) (Heap.get?_update_self _ hS' rfl) (by rw [Array.toList_push, hacc, List.map_append]; rfl) (by rw [List.length_append, hal]; rfl) ⟨?_, ?_, ?_⟩ ?_⟩) (by rw [sz]; omega) (by show (acc.push (Value.ref h.objs.size)).size ≤ sizeLine + 1; rw [Array.size_push, sz]; omega)))
      · refine List.pairwise_append.mpr ⟨G.up, List.pairwise_singleton _ _, fun d hd e he => ?_⟩
        rw [List.mem_singleton.mp he]
        exact G.lt hd
      · intro d hd
        rcases List.mem_append.mp hd with hd | hd
        · exact G.hi d hd
        · rw [List.mem_singleton.mp hd]; exact hlo
      · intro j d hj
        rcases Nat.lt_trichotomy j as.length with q | q | q
        · rw [List.getElem?_append_left q] at hj
          obtain ⟨x, y, e1, e2, e3⟩ := G.at_ j d hj
          have hd := G.hi d (List.mem_of_getElem? hj)
          exact ⟨x, y, e1, e2, kp2 d _ (past_ne hd l5) (past_ne hd l1) (past_ne hd l2) (past_ne hd l3) (past_ne hd l4) e3⟩
        · subst q
          have hd : h.objs.size = d := by simpa using hj
          subst hd
          exact ⟨_, _, Array.getElem?_eq_getElem (by rw [hal]; exact hlt1), Array.getElem?_eq_getElem (by rw [hal]; exact hlt2), up _ _ (Nat.ne_of_gt hSl) (by subst hal; exact pr)⟩
        · rw [List.getElem?_eq_none (by rw [List.length_append, List.length_singleton]; omega)] at hj
          cases hj
      · have e : (h'.update S (Obj.mapSeq (·.push (Value.ref h.objs.size)))).get? h.objs.size = _ := up _ _ (Nat.ne_of_gt hSl) pr
        exact Nat.lt_trans hlo (Heap.lt_size e))
end
theorem zip_nolen : typeLookup (.type "zip") "__len__" = pure none := am_miss_of_fast (by decide +kernel)
theorem zip_nohint : typeLookup (.type "zip") "__length_hint__" = pure none := am_miss_of_fast (by decide +kernel)
section
variable {prog : Program} {w : World} {A : Around} {E : Value → Shared → Prop} {s : Shared} {z TI TO i1 i2 a b : Addr} {xs ys : Array Value}
theorem zextend {R : Result → Shared → Prop} {S lo : Addr} (hh : A.handled = none) (D : ZipApart z TI TO i1 i2 a b) (l1 : z ≤ lo) (l2 : TO ≤ lo) (l3 : i1 ≤ lo) (l4 : i2 ≤ lo) (l5 : S ≤ lo) (hlo : lo < s.heap.objs.size) (nz : S ≠ z) (nO : S ≠ TO) (n1 : S ≠ i1) (n2 : S ≠ i2) (nI : S ≠ TI) (na : S ≠ a) (nb : S ≠ b)
    (hn : min xs.size ys.size ≤ sizeLine) (res : Value) (Z : IsZip s.heap z TI TO .none) {u v : Value} (O : IsPair s.heap TO u v) (P : IsPair s.heap TI (.ref i1) (.ref i2)) (j1 : s.heap.IsTupleIter i1 a 0) (j2 : s.heap.IsTupleIter i2 b 0) (ta : s.heap.IsTuple a xs) (tb : s.heap.IsTuple b ys) {c₀ : Nat}
    (hS : s.heap.get? S = some { cls := .type "list", data := .seq #[] c₀ })
    (fin : ∀ h' acc c as, (∀ d o, d ≠ S → d ≠ z → d ≠ TO → d ≠ i1 → d ≠ i2 → s.heap.get? d = some o → h'.get? d = some o) → h'.get? S = some { cls := .type "list", dict := none, data := .seq acc c, slots := #[] } → as.length = min xs.size ys.size → Prs xs ys lo h' as →
      acc.toList = as.map Value.ref → R (.ok (.ret res)) { s with heap := h' }) :
    wpAny (model prog w) A.in1 (Builtin.List.listExtendWith (.ref S) (.ref z) res) (fun r s' => match r with | .done f => R (.ok f) s' | .again c' => c'.quiet = true ∧ codeAny (model prog w) A c' R s') (fun e s' => R (.error e) s') s := by
  have ty : s.TypeIs (.ref z) "zip" := ⟨_, Z, rfl⟩
  unfold Builtin.List.listExtendWith
  refine wpAny_bind (wpAny_typeOf ty ?_)
  simp only [show Builtin.List.listSameRef (.ref S) (.ref z) = false by simp [Builtin.List.listSameRef, nz], show (Value.type "zip" == Value.type "list") = false by decide, show (Value.type "zip" == Value.type "tuple") = false by decide, Bool.or_false, Bool.false_eq_true, if_false]
  refine wpAny_bind (wpAny_pyIter_zip Z (wpAny_bind (wpAny_holding ?_)))
  unfold Builtin.List.listLengthHint
  refine wpAny_bind (wpAny_specialOf ty zip_nolen ?_)
  refine (show wpAny _ A.in1 (specialOf (Value.ref z) (Str.ofString "__length_hint__") >>= _) _ _ _ from wpAny_bind (wpAny_specialOf ty zip_nohint (wpAny_pure ?_)))
  refine (show wpAny _ A.in1 (rule "list.extend.makes-room" >>= fun _ => Builtin.List.listTouch (.ref S) >>= fun _ => again (.builtin "list.extend.loop" ⟨[.ref S, .ref z, res], []⟩)) _ _ _ from wpAny_bind (wpAny_rule (wpAny_bind ?_)))
  refine (show wpAny _ A.in1 (updateSeq S (·.push .none) >>= fun _ => updateSeq S (·.pop)) _ _ _ from wpAny_bind (wpAny_updateSeq hS rfl ?_))
  have hS2 := Heap.get?_update_self (Obj.mapSeq (·.push Value.none)) hS rfl
  refine wpAny_updateSeq (hz := by seq_fits) hS2 rfl ?_
  have hS3 := Heap.get?_update_self (Obj.mapSeq (·.pop)) hS2 rfl
  generalize hg : (s.heap.update S (Obj.mapSeq (·.push Value.none))).update S (Obj.mapSeq (·.pop)) = h0 at hS3
  have oth : ∀ d o, d ≠ S → s.heap.get? d = some o → h0.get? d = some o := fun d o hd e => by
    rw [← hg]
    exact (Heap.get?_update_other _ _ (Ne.symm hd)).trans ((Heap.get?_update_other _ _ (Ne.symm hd)).trans e)
  have size : lo < h0.objs.size := by
    rw [← hg]
    rw [(Heap.SameBut.update (a := S) ..).1, (Heap.SameBut.update (a := S) ..).1]
    exact hlo
  refine wpAny_pure ⟨plainId_quiet PySem.F.plain_extend_loop _, zloop (s := s) (h₁ := h0) hh D l1 l2 l3 l4 l5 nz nO n1 n2 nI na nb hn res (fun h' acc c as kp => fin h' acc c as fun d o q1 q2 q3 q4 q5 e => kp d o q1 q2 q3 q4 q5 (oth d o q1 e)) _ 0 h0 _ #[] [] rfl (Nat.zero_le _)
    (.inl ⟨oth _ _ (Ne.symm nz) Z, u, v, oth _ _ (Ne.symm nO) O⟩) (oth _ _ (Ne.symm nI) P) (j1.at fun o e => oth _ o (Ne.symm n1) e) (j2.at fun o e => oth _ o (Ne.symm n2) e) (let ⟨o, e, r⟩ := ta; ⟨o, oth _ o (Ne.symm na) e, r⟩) (let ⟨o, e, r⟩ := tb; ⟨o, oth _ o (Ne.symm nb) e, r⟩)
    (fun d o _ _ _ _ _ e => e) hS3 rfl rfl ⟨.nil, (fun _ hc => nomatch hc), (fun j c hj => by simp at hj)⟩ size⟩
theorem zinit {R : Result → Shared → Prop} {S lo : Addr} (hh : A.handled = none) (D : ZipApart z TI TO i1 i2 a b) (l1 : z ≤ lo) (l2 : TO ≤ lo) (l3 : i1 ≤ lo) (l4 : i2 ≤ lo) (l5 : S ≤ lo) (hlo : lo < s.heap.objs.size) (nz : S ≠ z) (nO : S ≠ TO) (n1 : S ≠ i1) (n2 : S ≠ i2) (nI : S ≠ TI) (na : S ≠ a) (nb : S ≠ b)
    (hn : min xs.size ys.size ≤ sizeLine) (Z : IsZip s.heap z TI TO .none) {u v : Value} (O : IsPair s.heap TO u v) (P : IsPair s.heap TI (.ref i1) (.ref i2)) (j1 : s.heap.IsTupleIter i1 a 0) (j2 : s.heap.IsTupleIter i2 b 0) (ta : s.heap.IsTuple a xs) (tb : s.heap.IsTuple b ys)
    (hS : s.heap.get? S = some { cls := .type "list", data := .seq #[] })
    (fin : ∀ h' acc c as, (∀ d o, d ≠ S → d ≠ z → d ≠ TO → d ≠ i1 → d ≠ i2 → s.heap.get? d = some o → h'.get? d = some o) → h'.get? S = some { cls := .type "list", dict := none, data := .seq acc c, slots := #[] } → as.length = min xs.size ys.size → Prs xs ys lo h' as →
      acc.toList = as.map Value.ref → R (.ok (.ret .none)) { s with heap := h' }) :
    wpAny (model prog w) A.in1 (Builtin.«list.__init__» ⟨[.ref S, .ref z], []⟩) (fun r s' => match r with | .done f => R (.ok f) s' | .again c' => c'.quiet = true ∧ codeAny (model prog w) A c' R s') (fun e s' => R (.error e) s') s := by
  refine (show wpAny _ _ (do let old ← Builtin.List.listItems (.ref S); Builtin.List.listUpdate (.ref S) (fun _ => #[]); letGo old.toList.reverse; Builtin.List.listExtendWith (.ref S) (.ref z) .none) _ _ s from wpAny_bind ?_)
  unfold Builtin.List.listItems
  refine wpAny_bind (wpAny_seqItems hS rfl (wpAny_pure ?_))
  refine (show wpAny _ _ (updateSeq S (fun _ => #[]) >>= fun _ => letGo (#[] : Array Value).toList.reverse >>= fun _ => Builtin.List.listExtendWith (.ref S) (.ref z) .none) _ _ s from wpAny_bind (wpAny_updateSeq hS rfl (wpAny_bind (wpAny_letGo ?_))))
  have hS2 := Heap.get?_update_self (Obj.mapSeq (fun _ => (#[] : Array Value))) hS rfl
  have oth : ∀ d o, d ≠ S → s.heap.get? d = some o → (s.heap.update S (Obj.mapSeq (fun _ => (#[] : Array Value)))).get? d = some o := fun d o hd e => (Heap.get?_update_other _ _ (Ne.symm hd)).trans e
  refine zextend (s := { s with heap := s.heap.update S (Obj.mapSeq (fun _ => (#[] : Array Value))) }) hh D l1 l2 l3 l4 l5 (by show lo < (s.heap.update S _).objs.size; rw [(Heap.SameBut.update (a := S) ..).1]; exact hlo) nz nO n1 n2 nI na nb hn .none (oth _ _ (Ne.symm nz) Z) (oth _ _ (Ne.symm nO) O) (oth _ _ (Ne.symm nI) P)
    (j1.at fun o e => oth _ o (Ne.symm n1) e) (j2.at fun o e => oth _ o (Ne.symm n2) e) (let ⟨o, e, r⟩ := ta; ⟨o, oth _ o (Ne.symm na) e, r⟩) (let ⟨o, e, r⟩ := tb; ⟨o, oth _ o (Ne.symm nb) e, r⟩) hS2 fun h' acc c as kp => fin h' acc c as fun d o q1 q2 q3 q4 q5 e => kp d o q1 q2 q3 q4 q5 (oth d o q1 e)
/-- list(z) of a zip that was just made -/
theorem zcall {Q : Value → Shared → Prop} (hh : A.handled = none) (D : ZipApart z TI TO i1 i2 a b) (l1 : z < s.heap.objs.size) (l2 : TO < s.heap.objs.size) (l3 : i1 < s.heap.objs.size) (l4 : i2 < s.heap.objs.size) (l6 : TI < s.heap.objs.size) (la : a < s.heap.objs.size) (lb : b < s.heap.objs.size)
    (hn : min xs.size ys.size ≤ sizeLine) (Z : IsZip s.heap z TI TO .none) {u v : Value} (O : IsPair s.heap TO u v) (P : IsPair s.heap TI (.ref i1) (.ref i2)) (j1 : s.heap.IsTupleIter i1 a 0) (j2 : s.heap.IsTupleIter i2 b 0) (ta : s.heap.IsTuple a xs) (tb : s.heap.IsTuple b ys)
    (fin : ∀ h' acc c as, (∀ d o, d ≠ z → d ≠ TO → d ≠ i1 → d ≠ i2 → s.heap.get? d = some o → h'.get? d = some o) → h'.get? s.heap.objs.size = some { cls := .type "list", dict := none, data := .seq acc c, slots := #[] } → as.length = min xs.size ys.size → Prs xs ys s.heap.objs.size h' as →
      acc.toList = as.map Value.ref → Q (.ref s.heap.objs.size) { s with heap := h' }) : wpAny (model prog w) A (call (.type "list") [.ref z]) Q E s := by
  refine callType_codes (Q₁ := fun o s1 => o = .ref s.heap.objs.size ∧ s1 = { s with heap := s.heap.push { cls := .type "list", data := .seq #[] } }) PySem.F.called_list (PySem.F.typeCall_list_1 _) PySem.F.entry_list_init (code_list_new _ ⟨rfl, rfl⟩) (by
    rintro o s1 ⟨rfl, rfl⟩
    have hS : (s.heap.push { cls := .type "list", data := .seq #[] }).get? s.heap.objs.size = some { cls := .type "list", data := .seq #[] } := Heap.get?_push_size _ rfl
    have up : ∀ d o, s.heap.get? d = some o → (s.heap.push { cls := .type "list", data := .seq #[] }).get? d = some o := fun d o e => Heap.get?_push_of_some _ e
    exact ⟨⟨_, hS, rfl⟩, PySem.F.args_list_init_2 _ _, zinit (A := A.in1) (s := { s with heap := s.heap.push { cls := .type "list", data := .seq #[] } }) (lo := s.heap.objs.size) hh D (Nat.le_of_lt l1) (Nat.le_of_lt l2) (Nat.le_of_lt l3) (Nat.le_of_lt l4) (Nat.le_refl _) (Heap.lt_size hS)
      (Nat.ne_of_gt l1) (Nat.ne_of_gt l2) (Nat.ne_of_gt l3) (Nat.ne_of_gt l4) (Nat.ne_of_gt l6) (Nat.ne_of_gt la) (Nat.ne_of_gt lb) hn (up _ _ Z) (up _ _ O) (up _ _ P) (j1.at fun o e => up _ o e) (j2.at fun o e => up _ o e) (let ⟨o, e, r⟩ := ta; ⟨o, up _ o e, r⟩) (let ⟨o, e, r⟩ := tb; ⟨o, up _ o e, r⟩) hS
      fun h' acc c as kp hl ln pr ha => ⟨rfl, fin h' acc c as (fun d o q2 q3 q4 q5 e => kp d o (Nat.ne_of_lt (Heap.lt_size e)) q2 q3 q4 q5 (up d o e)) hl ln pr ha⟩⟩)
end
/-! ### the rule -/
/-- the new tuples: the j-th holds the two j-th items -/
def PrsV (H : Hp) (xs ys : List V) (as : List Addr) : Prop := as.length = min xs.length ys.length ∧ ∀ (j : Nat) (c : Addr), as[j]? = some c → ∃ x y, xs[j]? = some x ∧ ys[j]? = some y ∧ H c = some (.tup [x, y])
def tListZip (K : PySem.W.Frag) (ta : TA) : TE := fun σ H Q => ta σ H fun vs H1 => ∃ a b xs ys, vs = [.ref a, .ref b] ∧ SqT K H1 a xs ∧ SqT K H1 b ys ∧ ∀ (l : Addr) (as : List Addr) (H2 : Hp), H1 l = none → Same H1 H2 → H2 l = some (.lst (as.map V.ref)) → PrsV H2 xs ys as → Q (.ref l) H2
theorem rel_uniq {x : V} {u : Value} (h : RelV x u) : RelV x u := h
theorem pe_listZip {X : Cx} {e e2 : Expr} {ta : TA} {p p2 pos pos2 : Pos} (hc : X.calm = true) (hg : Gl X "list") (hm : X.mg "list" = none) (hg2 : Gl X "zip") (hm2 : X.mg "zip" = none) (ha : PA X [e, e2] ta)
    (hs : starEach [e, e2] X.env = (false, eval e X.env) :: starEach [e2] X.env := by rfl) (hpl : (backTo pos2 (starEach [e2] X.env)).any (·.1) = false := by rfl)
    (na : starEach [.Call (.Name "zip" p2) [e, e2] [] pos2] X.env = (false, eval (.Call (.Name "zip" p2) [e, e2] [] pos2) X.env) :: starEach [] X.env := by rfl) :
    PE X (.Call (.Name "list" p) [.Call (.Name "zip" p2) [e, e2] [] pos2] [] pos) (tListZip X.K ta) := by
  refine ⟨fun pins s σ H Q I h => ?_⟩
  refine Call_ (ld_blt I hg hm PyProof.Rows.boot_list (PyProof.Rows.callWith_type1 (args_cons (Call_ (ld_blt I hg2 hm2 PyProof.Rows.boot_zip (PyProof.Rows.callWith_type1 (thn (ha.run pos2 pins s σ H _ I h) fun us s1 ⟨vs, H1, I1, r1, q1⟩ => ?_) hs hpl))) na) na))
  obtain ⟨a, b, xs, ys, ex, hqx, hqy, q⟩ := q1
  subst ex
  obtain ⟨u1, u2, rfl, r1a, r1b⟩ := r1.two
  cases r1a
  cases r1b
  obtain ⟨its, rv, tp, z1⟩ := I1.tuple hqx
  obtain ⟨its2, rv2, tp2, z2⟩ := I1.tuple hqy
  obtain ⟨o1, ho1, _⟩ := id tp
  obtain ⟨o2, ho2, _⟩ := id tp2
  have la := Heap.lt_size ho1
  have lb := Heap.lt_size ho2
  refine call_zipT (show s1.heap.IsTuple a its.toArray from tp) (show s1.heap.IsTuple b its2.toArray from tp2) fun h' Z P O j1 j2 hsz kp => args_nil ?_
  have kt : h'.IsTuple a its.toArray := let ⟨o, e, r⟩ := (show s1.heap.IsTuple a its.toArray from tp); ⟨o, kp _ o e, r⟩
  have kt2 : h'.IsTuple b its2.toArray := let ⟨o, e, r⟩ := (show s1.heap.IsTuple b its2.toArray from tp2); ⟨o, kp _ o e, r⟩
  have I2 : Inv X pins σ H1 { s1 with heap := h' } := I1.kept (t' := s1.toks) kp
  have lt5 : ∀ k, k < 5 → s1.heap.objs.size + k < h'.objs.size := fun k hk => by rw [hsz]; exact Nat.add_lt_add_left hk _
  refine zcall (s := { s1 with heap := h' }) (I1.ok.hd hc) (PySem.W.ktu_apart s1.heap.objs.size a b la lb) (lt5 4 (by decide)) (lt5 3 (by decide)) (lt5 0 (by decide)) (lt5 1 (by decide)) (lt5 2 (by decide)) (Nat.lt_trans la (lt5 0 (by decide))) (Nat.lt_trans lb (lt5 0 (by decide))) ?_ Z O P j1 j2 kt kt2 fun h2 acc c as kp2 hl ln pr hacc => ?_
  · rw [List.size_toArray, List.size_toArray]
    exact Nat.le_trans (Nat.min_le_left _ _) (by rw [← rv.length]; exact z1)
  have kp3 : ∀ d o, s1.heap.get? d = some o → h2.get? d = some o := fun d o e => by
    have lt := Heap.lt_size e
    have far : ∀ k, d ≠ s1.heap.objs.size + k := fun k => Nat.ne_of_lt (Nat.lt_of_lt_of_le lt (Nat.le_add_right _ _))
    exact kp2 d o (far 4) (far 3) (far 0) (far 1) (kp d o e)
  have I3 : Inv X pins σ H1 { s1 with heap := h2 } := I1.kept (t' := s1.toks) kp3
  have nd : as.Nodup := pr.up.imp fun h => Nat.ne_of_lt h
  have ge : s1.heap.objs.size ≤ h'.objs.size := Nat.le_of_lt (lt5 0 (by decide))
  have fl : H1 h'.objs.size = none := I1.hok.fresh ge
  have notin : h'.objs.size ∉ as := fun z => Nat.lt_irrefl _ (pr.hi _ z)
  have I3' : Inv X pins σ (upd H1 h'.objs.size (.lst (as.map V.ref))) { s1 with heap := h2 } := I3.take (t' := s1.toks) (fun b ob _ e => e) (I1.fpOk ge fl) ⟨by
    rw [List.length_map, ln, List.size_toArray, List.size_toArray]
    exact Nat.le_trans (Nat.min_le_left _ _) (by rw [← rv.length]; exact z1), acc.toList, c, by rw [hacc]; exact vals_refs as, by rw [Array.toArray_toList]; exact hl⟩
  obtain ⟨H2, I4, g2, gs⟩ := L2.DX.takeT (tk := s1.toks) (P := fun c vs => ∃ j x y, as[j]? = some c ∧ vs = [x, y] ∧ xs[j]? = some x ∧ ys[j]? = some y) I1 as _ I3' nd fun c hcm => by
    obtain ⟨j, hj⟩ := List.mem_iff_getElem?.mp hcm
    obtain ⟨u, u', e1, e2, e3⟩ := pr.at_ j c hj
    have hge : s1.heap.objs.size ≤ c := Nat.le_of_lt (Nat.lt_trans (lt5 0 (by decide)) (pr.hi c hcm))
    have f1 : j < xs.length := by
      have := (Array.getElem?_eq_some_iff.mp e1).1
      rw [rv.length]; simpa using this
    have f2 : j < ys.length := by
      have := (Array.getElem?_eq_some_iff.mp e2).1
      rw [rv2.length]; simpa using this
    obtain ⟨w1, hw1, rw1⟩ := rv.get (List.getElem?_eq_getElem f1)
    obtain ⟨w2, hw2, rw2⟩ := rv2.get (List.getElem?_eq_getElem f2)
    have ew1 : w1 = u := by have : its[j]? = some u := by simpa using e1
                            rw [hw1] at this; exact Option.some.inj this
    have ew2 : w2 = u' := by have : its2[j]? = some u' := by simpa using e2
                             rw [hw2] at this; exact Option.some.inj this
    subst ew1 ew2
    exact ⟨hge, (upd_ne fun z => notin (by rw [← z]; exact hcm)).trans (I1.hok.fresh hge), _, ⟨j, _, _, hj, rfl, List.getElem?_eq_getElem f1, List.getElem?_eq_getElem f2⟩, fun H3 => ⟨by show 2 ≤ sizeLine; decide, [w1, w2], .cons rw1 (.cons rw2 .nil), ⟨_, e3, rfl, _, rfl⟩⟩⟩
  refine ⟨.ref h'.objs.size, H2, I4, rfl, q h'.objs.size as H2 fl (fun d o e => g2 d o (by rw [upd_ne (ne_of_none e fl)]; exact e)) (g2 _ _ upd_same) ⟨?_, fun j c hj => ?_⟩⟩
  · rw [ln, List.size_toArray, List.size_toArray, rv.length, rv2.length]
  · obtain ⟨vs, ⟨j', x, y, hj', rfl, hx, hy⟩, e⟩ := gs c (List.mem_of_getElem? hj)
    have : j = j' := by
      have q1 := (List.getElem?_eq_some_iff.mp hj).1
      exact (List.getElem?_inj q1 nd).mp (hj.trans hj'.symm)
    subst this
    exact ⟨x, y, hx, hy, e⟩
end Ag

set_option maxRecDepth 100000
set_option maxHeartbeats 2000000
/-! the text's own error Broken(place), a class over Exception with an __init__ of one field: made and raised (turned from the skeleton of an own error) -/
namespace PySem
namespace BrkX
open PySem.W PySem.Calls PyProof.Rows PySem.HandSPX
/-! ### the text of __init__ -/
def iA (p1 p2 : Pos) : Arguments := { posonlyargs := [], args := [{ arg := "self", annotation := none, pos := p1 }, { arg := "place", annotation := none, pos := p2 }], vararg := none, kwonlyargs := [], kw_defaults := [], kwarg := none, defaults := [] }
def iB (q1 q2 q3 q4 : Pos) : List Stmt := [.Assign [.Attribute (.Name "self" q1) "place" q2] (.Name "place" q3) q4]
def iS : Scope := { kind := .function, names := [(PySem.Str.ofString "self", .local), (PySem.Str.ofString "place", .local)], isGenerator := false, isCoroutine := false, more := [] }
/-- what the written part says of Low, at C, and of its __init__, at fI -/
structure BrkTxt (K : Frag) (mg : Str → Option Value) (C fI : Addr) : Prop where
  gC : mg "Broken" = some (.ref C)
  cls : ∃ nm q N bs bm sn sub ab col dd k0 k1 k2 k3 k5, K.lookup C = some (excClassObj nm q C N bs bm true sn sub ab col dd k0 k1 k2 k3 k5 "Exception.__new__") ∧ bm = PySem.ESX.exTail
  sa : findIn K (.ref C) "__setattr__" = some (some (.builtin "object.__setattr__"))
  noN : findIn K (.ref C) "place" = some none
  iC : findIn K (.ref C) "__init__" = some (some (.ref fI))
  tC : typeIn K (.ref fI) = some (.type "function")
  kC : keepIn K (.ref C) = true
  exC : subIn K (.ref C) (.type "BaseException") = some true
  tyC : typeIn K (.ref C) = some (.type "type")
  hdC : hasDictIn K C = true
  te : exmOne K (.ref C) (.ref C) = some true
  fn : ∃ (oc : Value) (od : Option Addr) (doc pm : Value) (an : Option Addr) (cdv ct : Value) (osl : Array (Option Value)) (p1 p2 q1 q2 q3 q4 : Pos),
    K.lookup fI = some ⟨oc, od, .func (fnOf "__init__" "Broken.__init__" (iA p1 p2) (iB q1 q2 q3 q4) iS .none .none doc pm an cdv ct), osl⟩ ∧ codeIn K cdv "Broken.__init__" = true
theorem one_size (v : Value) : [v].length ≤ sizeLine := by
  rw [sizeLine_eq]
  exact (by decide : 1 ≤ 16777216)
theorem kept_but {K : Frag} {h h' : Heap} {x : Addr} (X : K.In h) (hx : K.lookup x = none) (k : ∀ b o, b ≠ x → h.get? b = some o → h'.get? b = some o) : K.In h' := fun a o e =>
  k a o (fun z => by rw [z, hx] at e; cases e) (X a o e)
theorem ldC {M : Model} {s : Shared} {name : Str} {scope : Scope} {L a : Addr} {cd : Value} {m : Str → Option Value} {x : Str} {pos : Pos} {v : Value} {Q : Value → Shared → Prop} {A : Around} {E : Value → Shared → Prop} (hn : s.heap.Ns L m) (hv : m x = some v) (h : Q v s)
    (hk : scope.kind = .function := by rfl) (hl : (envOfC name scope L a cd).kindOf x = some .local := by rfl) (hd : (x == ("__debug__" : Str)) = false := by decide) :
    wpAny M A (eval (.Name x pos) (envOfC name scope L a cd)) Q E s := wpAny_Name (wpAny_loadName_local hk hl hn hv h) hd
/-- what __init__ leaves of a fresh exception at x -/
structure InitEnd (h h' : Heap) (x C dx t1 : Addr) (v : Value) : Prop where
  keep : ∀ b o, b ≠ x → h.get? b = some o → h'.get? b = some o
  obj : h'.get? x = some { cls := .ref C, dict := some dx, data := .fields #[.ref t1, .none, .none, .none, .bool false, .none] }
  dbig : h.objs.size ≤ dx
  dne : dx ≠ x
  ns : h'.Ns1 dx (fun y => if y = "place" then some v else none)
/-- a made Low -/
structure OwnMade (h h' : Heap) (e C d : Addr) (v : Value) : Prop where
  keep : ∀ b o, h.get? b = some o → h'.get? b = some o
  new : h.objs.size ≤ e
  obj : ∃ oe vs, h'.get? e = some oe ∧ oe.cls = .ref C ∧ oe.dict = some d ∧ oe.data = .fields vs ∧ vs[1]? = some .none
  dbig : h.objs.size ≤ d
  dne : d ≠ e
  ns : h'.Ns1 d (fun y => if y = "place" then some v else none)
section
variable {prog : Program} {w : World} {A : Around} {E : Value → Shared → Prop} {R : Result → Shared → Prop} {s : Shared} {K : Frag} {mg : Str → Option Value} {C fI : Addr}
theorem brk_init (T : BrkTxt K mg C fI) {x t0 : Addr} {v : Value} (X : K.In s.heap) (hlim : s.heap.NoLimit) (hx : s.heap.get? x = some (excO C t0)) (hnx : K.lookup x = none) (hroom : A.depth < recursionLimit)
    (hq : ∀ h' tk dx, InitEnd s.heap h' x C dx t0 v → R (.ok (.ret .none)) { s with heap := h', toks := tk }) :
    codeAny (model prog w) A (.call (.ref fI) ⟨[.ref x, v], []⟩) R s := by
  obtain ⟨oc, od, doc, pm, an, cdv, ct, osl, p1, p2, q1, q2, q3, q4, ho, hcd⟩ := T.fn
  obtain ⟨nm, q, N, bs, bm, sn, sub, ab, col, dd, k0, k1, k2, k3, k5, hC, hbm⟩ := T.cls
  have hcl : clsIn K C = some { name := nm, bases := bs, mro := .ref C :: bm, ns := N, qualname := q, hasDict := true, slotNames := sn, subclasses := sub, abstract := ab, collection := col, hasDel := false } := by unfold clsIn; rw [hC] <;> rfl
  refine Att.call_fn (binds := [("self", .ref x), ("place", v)]) X hlim ho hcd hroom (BindsTo.of_eq (by first | rfl | with_unfolding_all rfl)) (by first | rfl | decide | with_unfolding_all rfl) (fun s₁ IC => ?_) rfl rfl rfl
  obtain ⟨h₁, tk₁, rfl⟩ := IC.toInCall.same
  have k : ∀ b o, s.heap.get? b = some o → h₁.get? b = some o := IC.toInCall.keep
  have hn := IC.toInCall.ns
  have hxL : s.heap.objs.size ≠ x := Nat.ne_of_gt (Heap.lt_size hx)
  have X₁ : K.In h₁ := X.keeps k
  have hx₁ := k _ _ hx
  -- self.by = by
  show wpAny _ _ (execs _ _) _ _ _
  refine wpAny_execs_cons (plainObj_wpAny_Assign_Attribute ?_)
  refine ldC (v := v) hn (by first | rfl | with_unfolding_all rfl | kernel_rfl) (ldC (v := .ref x) hn (by first | rfl | with_unfolding_all rfl | kernel_rfl) ?_)
  refine set_plain X₁ (ox := excO C t0) (od := none) ⟨hx₁, rfl, rfl, trivial⟩ T.sa ?_
  refine PySem.ESX.osa_new X₁ hx₁ hcl (by rw [hbm]) rfl T.noN (fun h₃ tk₃ dx k₃ dn dne hx₃ hn₃ => ?_)
  show wpAny _ _ (execs _ _) _ _ _
  have z : s.heap.objs.size < h₁.objs.size := hn.lt
  exact wpAny_execs_nil (hq h₃ tk₃ dx ⟨fun b o hb e => k₃ b o hb (k b o e), hx₃, Nat.le_of_lt (Nat.lt_of_lt_of_le z dn), dne, hn₃⟩)
theorem brk_made (T : BrkTxt K mg C fI) {v : Value} (X : K.In s.heap) (hlim : s.heap.NoLimit) (hroom : A.depth + 1 < recursionLimit)
    (hq : ∀ h' tk e d, OwnMade s.heap h' e C d v → R (.ok (.ret (.ref e))) { s with heap := h', toks := tk }) :
    codeAny (model prog w) A (.call (.ref C) ⟨[v], []⟩) R s := by
  obtain ⟨nm, q, N, bs, bm, sn, sub, ab, col, dd, k0, k1, k2, k3, k5, hC, hbm⟩ := T.cls
  obtain ⟨hp, g, dr, tk, os⟩ := s
  have k : ∀ b o, hp.get? b = some o → ((hp.push (kdv_tup [v])).push (excO C hp.objs.size)).get? b = some o := fun b o e => Heap.get?_push_of_some _ (Heap.get?_push_of_some _ e)
  have hget : ((hp.push (kdv_tup [v])).push (excO C hp.objs.size)).get? (hp.objs.size + 1) = some (excO C hp.objs.size) := by heap_get
  have hnx : K.lookup (hp.objs.size + 1) = none := by
    cases e : K.lookup (hp.objs.size + 1) with
    | none => rfl
    | some o =>
      have z : hp.get? (hp.objs.size + 1) = some o := X _ _ e
      exact absurd (Nat.lt_of_succ_lt (Heap.lt_size z)) (Nat.lt_irrefl _)
  refine call_own F.excBase_Exception (fun Y => by rw [hbm]) (X _ _ hC) (looks_findIn X T.iC) (fun self => bind_fn X self T.tC) (one_size v) ?_
  refine brk_init (s := ⟨(hp.push (kdv_tup [v])).push (excO C hp.objs.size), g, dr, tk, os⟩) T (X.keeps k) (hlim.keeps k) hget hnx ?_ fun h' tk' dx ⟨k', hx, dn, dne, hns⟩ => ?_
  · show A.depth + 1 < recursionLimit
    exact hroom
  · have old : ∀ b o, hp.get? b = some o → h'.get? b = some o := fun b o e => k' b o (Nat.ne_of_lt (Nat.lt_succ_of_lt (Heap.lt_size e))) (k b o e)
    have z : hp.objs.size + 1 + 1 ≤ dx := by
      first
        | (simpa only [Heap.size_push] using dn)
        | exact dn
        | (have q := dn; rw [Heap.size_push, Heap.size_push] at q; exact q)
    exact ⟨rfl, hq h' tk' (hp.objs.size + 1) dx ⟨old, Nat.le_succ _, ⟨_, _, hx, rfl, rfl, rfl, rfl⟩, Nat.le_trans (Nat.le_trans (Nat.le_succ _) (Nat.le_succ _)) z, dne, hns⟩⟩
end
end BrkX
end PySem
namespace L2
open PySem PySem.Spec PyProof.Rows
theorem relO_brk {v : V} {v' : Value} (r : RelV v v') (f : Str) : RelO (List.lookup f [(("place" : Str), v)]) (if f = "place" then some v' else none) := by
  by_cases hw : f = "place"
  · subst hw
    rw [if_pos rfl]
    have q : List.lookup ("place" : Str) [(("place" : Str), v)] = some v := by simp [List.lookup]
    rw [q]
    exact r
  · rw [if_neg hw]
    have qw : (f == ("place" : Str)) = false := by simpa using hw
    have q2 : List.lookup f [(("place" : Str), v)] = none := by simp [List.lookup, qw]
    rw [q2]
    trivial
section
variable {X : Cx} {C fI : Addr}
/-- Low(e) -/
def tMkBrk (C : Addr) (ta : TA) : St → Hp → XK → Prop := fun σ H Q => ta σ H fun vs H1 => ∃ v, vs = [v] ∧ ∀ d, H1 d = none → Q (.ref C) (some d) (upd H1 d (.xd [(("place" : Str), v)]))
theorem pmk_brk {a : Expr} {ta : TA} {p pos : Pos} {k : Nat} (T : PySem.BrkX.BrkTxt X.K X.mg C fI) (hr : Room k X.A) (ha : PA X [a] ta) (hg : Gl X "Broken" := by rfl)
    (he : starEach (a :: []) X.env = (false, eval a X.env) :: starEach [] X.env := by rfl) (hpl : (backTo pos (starEach [] X.env)).any (·.1) = false := by rfl) :
    PMk X (.Call (.Name "Broken" p) [a] [] pos) (tMkBrk C ta) := by
  intro pins s σ H Q I h
  refine wpAny_Call_Name_kw (ld_glob I hg T.gC ?_)
  refine PySem.W.callWith_K (h₀ := X.base) I.ok.mod.kin T.kC (thn (ha.run pos pins s σ H _ I h) fun us s1 hh => ?_) he hpl
  obtain ⟨vs, H1, I1, r1, v, ev, q1⟩ := hh
  subst ev
  refine ⟨I1.kIn, ?_⟩
  cases r1 with
  | cons rv rn =>
    rename_i v' us'
    cases rn
    show wpAny _ _ (call (.ref C) [v']) _ _ _
    have hlim := I1.nolimit
    obtain ⟨hp, g, dr, tk, os⟩ := s1
    refine wpAny_call (PySem.BrkX.brk_made T I1.kIn hlim (by have := hr.dp; omega) fun h' tk' e d M => ?_)
    show MkP X pins σ Q (.ref e) ⟨h', g, dr, tk', os⟩
    obtain ⟨oe, fv, hoe, hc, hd, hdat, h1⟩ := M.obj
    have hns := M.ns
    obtain ⟨G', g1, g2⟩ := restrict h' fun b => decide (b ≠ e)
    have gk : ∀ b, b ≠ e → G'.get? b = h'.get? b := fun b hb => g1 b (decide_eq_true hb)
    have ge : G'.get? e = none := g2 e (by simp)
    have old : ∀ b o, hp.get? b = some o → G'.get? b = some o := fun b o q => (gk b (Nat.ne_of_lt (Nat.lt_of_lt_of_le (Heap.lt_size q) M.new))).trans (M.keep b o q)
    have ob : ObjOk X.prog X.w (upd H1 d (.xd [(("place" : Str), v)])) G' d (.xd [(("place" : Str), v)]) :=
      ⟨_, hns.at (fun o q => (gk d M.dne).trans q), fun f => relO_brk rv f⟩
    have J : Inv X pins σ (upd H1 d (.xd [(("place" : Str), v)])) ⟨G', g, dr, tk', os⟩ := I1.laid (t' := tk') old M.dbig ob
    refine ⟨e, oe, fv, ⟨G', g, dr, tk', os⟩, _, .ref C, some d, rfl, J, fun b o q => ?_, ge, hoe, ⟨hc, hd⟩, hdat, h1, ?_, rfl, I1.bare, raises_own T.exC T.tyC, q1 d (I1.hok.fresh M.dbig)⟩
    · by_cases hb : b = e
      · have q' : G'.get? b = some o := q
        rw [hb, ge] at q'; cases q'
      · exact (gk b hb).symm.trans q
    · rw [upd_ne (Ne.symm M.dne)]
      exact I1.hok.fresh M.new
/-- raise Low(e) -/
def tRaiseBrk (C : Addr) (W : WX) (ta : TA) : TS := fun _ σ H => tMkBrk C ta σ H fun cls d H' => W cls d σ H'
theorem ps_raiseBrk {a : Expr} {ta : TA} {W : WX} {p pos pos2 : Pos} {k : Nat} (hc : X.calm = true) (T : PySem.BrkX.BrkTxt X.K X.mg C fI) (hr : Room k X.A) (tk : Takes X W) (ha : PA X [a] ta) (hg : Gl X "Broken" := by rfl)
    (he : starEach (a :: []) X.env = (false, eval a X.env) :: starEach [] X.env := by rfl) (hpl : (backTo pos (starEach [] X.env)).any (·.1) = false := by rfl) :
    PS X (.Raise (some (.Call (.Name "Broken" p) [a] [] pos)) none pos2) (tRaiseBrk C W ta) := ps_raise hc tk (pmk_brk T hr ha hg he hpl)
end
end L2

set_option maxRecDepth 100000
set_option maxHeartbeats 2000000
namespace Ag
open PySem PySem.Spec PyProof.Rows L2
/-! ## a def of the text, known by its name -/
structure Gf (P : Program) (w : World) (K : PySem.W.Frag) (mg : Str → Option Value) (base : Heap) (CX : CXT) (k : Nat) (x : Str) (f : Addr) (fd : FuncData) (ps : List Str) (sp : Sp) : Prop where
  F : FnOk P w K mg base CX k f fd ps sp
  hm : mg x = some (.ref f)
  kp : PySem.W.keepIn K (.ref f) = true
  b : Binds K fd ps []
section
variable {X : Cx} {CX : CXT} {k : Nat} {x : Str} {f : Addr} {fd : FuncData} {ps : List Str} {sp : Sp} {E : XK}
theorem pe_g {e : Expr} {es : List Expr} {t : TA} {p pos : Pos} (g : Gf X.prog X.w X.K X.mg X.base CX k x f fd ps sp) (hr : Room k X.A) (hx : Passes CX X E) (ha : PA X (e :: es) t) (hg : Gl X x := by rfl)
    (hdb : (x == ("__debug__" : Str)) = false := by decide) (he : starEach (e :: es) X.env = (false, eval e X.env) :: starEach es X.env := by rfl) (hpl : (backTo pos (starEach es X.env)).any (·.1) = false := by rfl) :
    PE X (.Call (.Name x p) (e :: es) [] pos) (tCall sp [] E t) := pe_call g.F hr hg g.hm g.kp g.b .nil hx ha hdb he hpl
theorem pe_gi {i : Int} {pos : Pos} (h : ∃ t, X.mg x = some (.int i t)) (hg : Gl X x := by rfl) (hd : (x == ("__debug__" : Str)) = false := by decide) : PE X (.Name x pos) (tC (.int i)) := by
  obtain ⟨t, h⟩ := h
  exact pe_glob hg h ⟨_, rfl⟩ hd
theorem pe_gs {z : Str} {pos : Pos} (h : ∃ t, X.mg x = some (.str z t)) (hg : Gl X x := by rfl) (hd : (x == ("__debug__" : Str)) = false := by decide) : PE X (.Name x pos) (tC (.str z)) := by
  obtain ⟨t, h⟩ := h
  exact pe_glob hg h ⟨_, rfl⟩ hd
theorem pe_gr {a : Addr} {pos : Pos} (h : X.mg x = some (.ref a)) (hg : Gl X x := by rfl) (hd : (x == ("__debug__" : Str)) = false := by decide) : PE X (.Name x pos) (tC (.ref a)) := pe_glob hg h rfl hd
end
/-- what a callee lets out is this def's own -/
theorem psE {P : Program} {w : World} {K : PySem.W.Frag} {mg : Str → Option Value} {base : Heap} {N : List Str} {qual : Str} {scope : Scope} {f : Addr} {cd : Value} {A : Around} {outer : List Env} {s : Shared} {H : Hp} {E : XK} :
    Passes (L2.CX P w) (cxOf (L2.CX P w) P w K mg base N qual scope f cd A outer s H E) E :=
  passes_call (W := fun cls d _ H => E cls d H) (takes_of rfl rfl rfl rfl) fun _ _ _ _ h => h
/-- the loops of a def that may raise -/
theorem poE {P : Program} {w : World} {K : PySem.W.Frag} {mg : Str → Option Value} {base : Heap} {N : List Str} {qual : Str} {scope : Scope} {f : Addr} {cd : Value} {A : Around} {outer : List Env} {s : Shared} {H : Hp} {E : XK} :
    PassesOwn (model (cxOf (L2.CX P w) P w K mg base N qual scope f cd A outer s H E).prog (cxOf (L2.CX P w) P w K mg base N qual scope f cd A outer s H E).w) (cxOf (L2.CX P w) P w K mg base N qual scope f cd A outer s H E).A (cxOf (L2.CX P w) P w K mg base N qual scope f cd A outer s H E).env (cxOf (L2.CX P w) P w K mg base N qual scope f cd A outer s H E).xe := passes_of rfl
/-! ## heaps -/
/-- all that was tracked is as it was, but for these addresses -/
def Kp (S : List Addr) (H H' : Hp) : Prop := ∀ b o, H b = some o → b ∉ S → H' b = some o
theorem Kp.refl (S : List Addr) (H : Hp) : Kp S H H := fun _ _ h _ => h
theorem Kp.trans {S : List Addr} {H H1 H2 : Hp} (a : Kp S H H1) (b : Kp S H1 H2) : Kp S H H2 := fun c o h n => b c o (a c o h n) n
theorem Kp.mono {S S' : List Addr} {H H' : Hp} (a : Kp S H H') (h : ∀ b ∈ S, b ∈ S') : Kp S' H H' := fun c o e n => a c o e fun z => n (h c z)
theorem Kp.of {S : List Addr} {H H' : Hp} (a : Same H H') : Kp S H H' := fun c o e _ => a c o e
theorem Kp.same {H H' : Hp} (a : Kp [] H H') : Same H H' := fun c o e => a c o e (by simp)
theorem Kp.new {S : List Addr} {H : Hp} {p : Addr} {o : HO} (hp : H p = none) : Kp S H (upd H p o) := fun b u e _ => by rw [upd_ne (ne_of_none e hp)]; exact e
theorem Kp.write {S : List Addr} {H : Hp} {p : Addr} {o : HO} (hp : p ∈ S) : Kp S H (upd H p o) := fun b u e n => by
  have hb : b ≠ p := fun z => n (by rw [z]; exact hp)
  rw [upd_ne hb]; exact e
theorem Kp.new' {S : List Addr} {H H1 : Hp} {p : Addr} {o : HO} (a : Kp S H H1) (hp : H1 p = none) : Kp S H (upd H1 p o) := a.trans (Kp.new hp)
theorem Kp.write' {S : List Addr} {H H1 : Hp} {p : Addr} {o : HO} (a : Kp S H H1) (hp : p ∈ S) : Kp S H (upd H1 p o) := a.trans (Kp.write hp)
theorem Kp.seq {K : PySem.W.Frag} {S : List Addr} {H H' : Hp} {a : Addr} {xs : List V} (e : Kp S H H') (h : SqL K H a xs) (n : a ∉ S) : SqL K H' a xs := by
  rcases h with (h | ⟨o, h⟩) | h
  · exact .inl (.inl (e _ _ h n))
  · exact .inl (.inr ⟨o, e _ _ h n⟩)
  · exact .inr h
/-- a new address stays apart from what was tracked -/
theorem Same.new {H : Hp} {p : Addr} {o : HO} (hp : H p = none) : Same H (upd H p o) := fun b u e => by rw [upd_ne (ne_of_none e hp)]; exact e
theorem Same.new' {H H1 : Hp} {p : Addr} {o : HO} (a : Same H H1) (hp : H1 p = none) : Same H (upd H1 p o) := a.trans (Same.new hp)
/-- a list that is read stays, where instances alone are written -/
theorem Kp.seqI {K : PySem.W.Frag} {S : List Addr} {H H' : Hp} {a : Addr} {xs : List V} (e : Kp S H H') (h : SqL K H a xs) (n : ∀ c ∈ S, ∃ C dx fs, H c = some (.ins C dx fs)) : SqL K H' a xs := by
  rcases h with (h | ⟨o, h⟩) | h
  · exact .inl (.inl (e _ _ h fun z => by obtain ⟨C, dx, fs, q⟩ := n a z; rw [h] at q; cases q))
  · exact .inl (.inr ⟨o, e _ _ h fun z => by obtain ⟨C, dx, fs, q⟩ := n a z; rw [h] at q; cases q⟩)
  · exact .inr h
/-! ## if -/
theorem itt {c : Bool} {A B : Prop} (hc : c = true) (h : A) : if c = true then A else B := by
  rw [if_pos hc]
  exact h
theorem itf {c : Bool} {A B : Prop} (hc : c = false) (h : B) : if c = true then A else B := by
  rw [hc, if_neg Bool.false_ne_true]
  exact h
theorem ib {c : Bool} {A B : Prop} (h1 : c = true → A) (h2 : c = false → B) : if c = true then A else B := by
  cases c with
  | true => exact iteT (h1 rfl)
  | false => exact iteF (h2 rfl)
theorem idc {c A B : Prop} [Decidable c] (h1 : c → A) (h2 : ¬ c → B) : if decide c = true then A else B := by
  by_cases h : c
  · exact itt (decide_eq_true h) (h1 h)
  · exact itf (decide_eq_false h) (h2 h)
/-! ## values and cursors on the heap -/
/-- what a Value holds: its numbers, and where its three lists lie -/
structure VI where
  tag : Nat
  place : Nat
  many : Nat
  low : Bool
  cl : Addr
  nl : Addr
  ml : Addr
def vF (i : VI) : List (Str × V) := [("tag", .int i.tag), ("place", .int i.place), ("many", .int i.many), ("low", .bl i.low), ("codes", .ref i.cl), ("names", .ref i.nl), ("members", .ref i.ml)]
def cF (da : Addr) (p : Nat) : List (Str × V) := [("data", .ref da), ("at", .int p)]
def VObj (CV : Addr) (H : Hp) (a : Addr) (i : VI) : Prop := ∃ dx, H a = some (.ins CV dx (vF i))
def CurAt (CC : Addr) (H : Hp) (c da : Addr) (p : Nat) : Prop := ∃ dx, H c = some (.ins CC dx (cF da p))
theorem vF_tag (i : VI) : (vF i).lookup ("tag" : Str) = some (.int i.tag) := by rfl
theorem vF_place (i : VI) : (vF i).lookup ("place" : Str) = some (.int i.place) := by rfl
theorem vF_many (i : VI) : (vF i).lookup ("many" : Str) = some (.int i.many) := by rfl
theorem vF_low (i : VI) : (vF i).lookup ("low" : Str) = some (.bl i.low) := by rfl
theorem vF_codes (i : VI) : (vF i).lookup ("codes" : Str) = some (.ref i.cl) := by rfl
theorem vF_names (i : VI) : (vF i).lookup ("names" : Str) = some (.ref i.nl) := by rfl
theorem vF_members (i : VI) : (vF i).lookup ("members" : Str) = some (.ref i.ml) := by rfl
theorem cF_data (da : Addr) (p : Nat) : (cF da p).lookup ("data" : Str) = some (.ref da) := by rfl
theorem cF_at (da : Addr) (p : Nat) : (cF da p).lookup ("at" : Str) = some (.int p) := by rfl
theorem vF_len (i : VI) : (vF i).length < 1000 := by show 7 < 1000; decide
theorem cF_len (da : Addr) (p : Nat) : (cF da p).length < 1000 := by show 2 < 1000; decide
theorem put_many (i : VI) (n : Nat) : putF "many" (.int n) (vF i) = vF { i with many := n } := by rfl
theorem put_low (i : VI) (b : Bool) : putF "low" (.bl b) (vF i) = vF { i with low := b } := by rfl
theorem put_codes (i : VI) (p : Addr) : putF "codes" (.ref p) (vF i) = vF { i with cl := p } := by rfl
theorem put_at (da : Addr) (p q : Nat) : putF "at" (.int q) (cF da p) = cF da q := by rfl
end Ag

set_option maxRecDepth 100000
set_option maxHeartbeats 2000000
namespace Ag
open PySem PySem.Spec PyProof.Rows L2
def zSmall : Str := "abcdefghijklmnopqrstuvwxyz"
def zLarge : Str := "ABCDEFGHIJKLMNOPQRSTUVWXYZ"
def zFigures : Str := "0123456789"
/-- the own words of the text: where its table of keywords, of plain kinds lie -/
def kwList : List Str := (["module", "use", "sort", "fact", "rule", "fun", "action", "allow", "deny", "must", "slot", "if", "then", "else", "not", "and", "or", "like", "in", "of", "list", "count", "sum", "least", "greatest", "over", "from", "by", "prev", "yes", "no", "yesno", "number", "bytes", "text", "moment", "id"] : List String).map Str.ofString
def pkList : List Str := (["yesno", "number", "bytes", "text", "moment", "id"] : List String).map Str.ofString
/-- a tuple of these texts of the written part -/
def WrT (K : PySem.W.Frag) (a : Addr) (zs : List Str) : Prop := ∀ H : Hp, SqT K H a (zs.map V.str)
/-- what the top has written -/
structure Txt (K : PySem.W.Frag) (mg : Str → Option Value) (CB fB CV CC CK aKW aPK : Addr) : Prop where
  len : mg "len" = none
  ord : mg "ord" = none
  range : mg "range" = none
  list : mg "list" = none
  tuple : mg "tuple" = none
  zip : mg "zip" = none
  small : ∃ t, mg "SMALL" = some (.str zSmall t)
  large : ∃ t, mg "LARGE" = some (.str zLarge t)
  figures : ∃ t, mg "FIGURES" = some (.str zFigures t)
  kw : mg "KEYWORDS" = some (.ref aKW)
  kwT : WrT K aKW kwList
  pk : mg "PLAIN_KINDS" = some (.ref aPK)
  pkT : WrT K aPK pkList
  tNum : ∃ t, mg "NUMBER_TAG" = some (.int 2 t)
  tByt : ∃ t, mg "BYTES_TAG" = some (.int 3 t)
  tTxt : ∃ t, mg "TEXT_TAG" = some (.int 4 t)
  tLst : ∃ t, mg "LIST_TAG" = some (.int 5 t)
  tRec : ∃ t, mg "RECORD_TAG" = some (.int 6 t)
  tMom : ∃ t, mg "MOMENT_TAG" = some (.int 7 t)
  tId : ∃ t, mg "ID_TAG" = some (.int 8 t)
  deepest : ∃ t, mg "DEEPEST" = some (.int 64 t)
  lNum : ∃ t, mg "LONGEST_NUMBER" = some (.int 4096 t)
  lName : ∃ t, mg "LONGEST_NAME" = some (.int 255 t)
  great : ∃ t, mg "GREATEST_VARYING" = some (.int 4294967295 t)
  none : ∃ t, mg "NONE" = some (.int (-1) t)
  nothing : ∃ t, mg "NOTHING" = some (.int 6 t)
  lVal : ∃ t, mg "LONGEST_VALUE" = some (.int 16777216 t)
  tooLong : ∃ t, mg "TOO_LONG" = some (.int (-2) t)
  notTold : ∃ t, mg "NOT_TOLD" = some (.int (-5) t)
  notTaken : ∃ t, mg "NOT_TAKEN" = some (.int (-6) t)
  notAgreed : ∃ t, mg "NOT_AGREED" = some (.int (-9) t)
  brk : PySem.BrkX.BrkTxt K mg CB fB
  eB : PySem.W.exmOne K (.ref CB) (.ref CB) = some true
  clV : Cls K CV
  gV : mg "Value" = some (.ref CV)
  vTag : NoAttr K CV "tag"
  vPlace : NoAttr K CV "place"
  vMany : NoAttr K CV "many"
  vLow : NoAttr K CV "low"
  vCodes : NoAttr K CV "codes"
  vNames : NoAttr K CV "names"
  vMembers : NoAttr K CV "members"
  clC : Cls K CC
  gC : mg "Cursor" = some (.ref CC)
  cData : NoAttr K CC "data"
  cAt : NoAttr K CC "at"
  clK : Cls K CK
  gK : mg "Kinds" = some (.ref CK)
  kRows : NoAttr K CK "rows"
  kNumbers : NoAttr K CK "numbers"
  kAgreed : NoAttr K CK "agreed"
  kSorts : NoAttr K CK "sorts"
  kBases : NoAttr K CK "bases"
end Ag

set_option maxRecDepth 100000
set_option maxHeartbeats 2000000
namespace Ag
open PySem PySem.Spec PyProof.Rows L2
section
variable {P : Program} {w : World} {K : PySem.W.Frag} {mg : Str → Option Value} {base : Heap}
theorem scVary : FnScope ["amount", "out", "left"] ["amount"] (defScope sVaryingBytes) := ⟨rfl, rfl, rfl, by decide +kernel, rfl, by decide +kernel, by decide +kernel⟩
/-- a new list of these bytes, all else as it was -/
def NewB (H : Hp) (b : Sw.Bytes) (Q : VK) : Prop := ∀ (p : Addr) (H' : Hp), H p = none → Same H H' → H' p = some (.lst (bV b)) → Q (.ref p) H'
def spVary : Sp := fun vs H Q _ => ∃ n : Nat, vs = [.int n] ∧ n < 4294967296 ∧ NewB H (Sw.vary n) Q
theorem vary_small {n : Nat} (h : n < 128) : Sw.vary n = [UInt8.ofNat n] := by
  rw [Sw.vary, if_pos h]
theorem vary_big {n : Nat} (h : ¬ n < 128) : Sw.vary n = UInt8.ofNat (128 + n % 128) :: Sw.vary (n / 128) := by
  rw [Sw.vary, if_neg h]
theorem vary_length : ∀ (k n : Nat), n < 128 ^ k → 0 < k → (Sw.vary n).length ≤ k
  | 0, _, _, h => absurd h (Nat.lt_irrefl 0)
  | 1, n, h, _ => by rw [vary_small (by omega)]; simp
  | k + 2, n, h, _ => by
    by_cases c : n < 128
    · rw [vary_small c]; simp
    · rw [vary_big c, List.length_cons]
      have := vary_length (k + 1) (n / 128) (by rw [Nat.pow_succ] at h; exact Nat.div_lt_of_lt_mul (by rw [Nat.mul_comm]; exact h)) (Nat.succ_pos _)
      omega
theorem ok_vary {f : Addr} {fd : FuncData} (F : Fun K "varying_bytes" "varying_bytes" sVaryingBytes f fd) : FnOk P w K mg base CX0 1 f fd ["amount"] spVary := by
  refine F.ok scVary (fun vs H Q E h => ?_) (fun cdv A outer s H vs Q E hr h => ⟨_,
    pss_cons (ps_set (i := 1) scVary.nd rfl (.inl rfl) (pe_lst pa_nil))
    (pss_cons (ps_set (i := 2) scVary.nd rfl (.inl rfl) (pv 0))
    (pss_cons (ps_while PassesOwn.never (pt_cmpR op_ge (pv 2) pe_int (nomark _))
      (pss_cons (ps_expr (pe_bm PySem.F.plainAttrs_list PySem.F.slot_list_append PySem.F.type_list_append mt_append (pv 1) (pa_cons (pe_op op_add pe_int (pe_op op_mod (pv 2) pe_int)) pa_nil)))
      (pss_one (ps_set (i := 2) scVary.nd rfl (.inl rfl) (pe_op op_fdiv (pv 2) pe_int)))))
    (pss_cons (ps_expr (pe_bm PySem.F.plainAttrs_list PySem.F.slot_list_append PySem.F.type_list_append mt_append (pv 1) (pa_cons (pv 2) pa_nil)))
    (pss_one (ps_ret (pv 1)))))), ?_⟩)
  · obtain ⟨n, rfl, _⟩ := h
    rfl
  · obtain ⟨n, rfl, hn, k⟩ := h
    refine ⟨(by decide), fun p hp => ?_⟩
    refine ⟨_, rfl, ?_⟩
    -- the loop: the bytes so far, then those of what's left
    refine ⟨fun l σ H' => ∃ (acc : Sw.Bytes), σ = [some (.int n), some (.ref p), some (.int l)] ∧ Same H H' ∧ H' p = some (.lst (bV acc)) ∧ acc ++ Sw.vary l = Sw.vary n ∧ l ≤ n,
      ⟨n, [], rfl, fun b o e => by rw [upd_ne (ne_of_none e hp)]; exact e, upd_same, rfl, Nat.le_refl _⟩, ?_⟩
    rintro l σ H' ⟨acc, rfl, sm, hl, e, hle⟩
    have hlen : (Sw.vary n).length ≤ 5 := vary_length 5 n (by omega) (by omega)
    have hz : acc.length ≤ 5 := by
      have := congrArg List.length e
      rw [List.length_append] at this
      omega
    refine ⟨_, rfl, _, _, rfl, rfl, _, rfl, ?_⟩
    refine ite2 (fun c => ?_) (fun c => ?_)
    · have c' : ¬ l < 128 := by
        have := of_decide_eq_true c
        omega
      refine ⟨fun σ' H1 => ∃ m', m' < l ∧ ∃ (acc : Sw.Bytes), σ' = [some (.int n), some (.ref p), some (.int m')] ∧ Same H H1 ∧ H1 p = some (.lst (bV acc)) ∧ acc ++ Sw.vary m' = Sw.vary n ∧ m' ≤ n, fun _ _ h => h, ?_⟩
      refine ⟨_, rfl, .inl ⟨rfl, _, SqL.of hl⟩, ⟨_, rfl, _, _, rfl, rfl, (by show (0 : Int) < 128; decide), ?_⟩⟩
      refine ⟨_, _, rfl, rfl, ?_⟩
      refine ⟨p, _, _, rfl, rfl, hl, by rw [bV_length, sz_eq]; omega, ?_⟩
      refine ⟨_, rfl, _, _, rfl, rfl, ⟨by decide, by decide⟩, ?_⟩
      have hb : (Sw.vary l) = UInt8.ofNat (128 + l % 128) :: Sw.vary (l / 128) := vary_big c'
      refine ⟨l / 128, by omega, acc ++ [UInt8.ofNat (128 + l % 128)], rfl, fun b o eo => ?_, ?_, ?_, by omega⟩
      · rw [upd_ne (ne_of_none eo hp)]; exact sm b o eo
      · rw [upd_same, bV_append]
        have : (UInt8.ofNat (128 + l % 128)).toNat = 128 + l % 128 := by
          rw [UInt8.toNat_ofNat']
          omega
        show some (HO.lst (bV acc ++ [V.int (128 + (l : Int) % 128)])) = some (HO.lst (bV acc ++ [V.int (((UInt8.ofNat (128 + l % 128)).toNat : Nat) : Int)]))
        rw [this]
        rfl
      · rw [← e, hb, List.append_assoc]; rfl
    · have c' : l < 128 := by
        have : ¬ (128 : Int) ≤ (l : Int) := fun z => c (decide_eq_true z)
        omega
      refine ⟨_, rfl, .inl ⟨rfl, _, SqL.of hl⟩, _, rfl, p, _, _, rfl, rfl, hl, by rw [bV_length, sz_eq]; omega, ?_⟩
      refine ⟨_, rfl, ?_⟩
      refine k p _ hp (fun b o eo => ?_) ?_
      · rw [upd_ne (ne_of_none eo hp)]; exact sm b o eo
      · rw [upd_same, ← e, vary_small c', bV_append]
        have : (UInt8.ofNat l).toNat = l := by
          rw [UInt8.toNat_ofNat']
          omega
        show some (HO.lst (bV acc ++ [V.int (l : Int)])) = some (HO.lst (bV acc ++ [V.int (((UInt8.ofNat l).toNat : Nat) : Int)]))
        rw [this]
end
end Ag

set_option maxRecDepth 100000
set_option maxHeartbeats 2000000
namespace Ag
open PySem PySem.Spec PyProof.Rows L2
/-- the byte of a letter, a figure, a low line; a question mark's else -/
def lc (c : UInt8) : UInt8 := if (97 ≤ c.toNat ∧ c.toNat ≤ 122) ∨ (65 ≤ c.toNat ∧ c.toNat ≤ 90) ∨ (48 ≤ c.toNat ∧ c.toNat ≤ 57) ∨ c.toNat = 95 then c else 63
section
variable {P : Program} {w : World} {K : PySem.W.Frag} {mg : Str → Option Value} {base : Heap} {CB fB CV CC CK aKW aPK : Addr}
theorem scLetter : FnScope ["code"] ["code"] (defScope sLetter) := ⟨rfl, rfl, rfl, by decide +kernel, rfl, by decide +kernel, by decide +kernel⟩
def spLetter : Sp := fun vs H Q _ => ∃ c : UInt8, vs = [.int (c.toNat : Nat)] ∧ Q (.str ⟨#[(lc c).toNat]⟩) H
theorem small_at : ∀ j, j < 26 → zSmall.cps.toList[j]? = some (97 + j) := by decide +kernel
theorem large_at : ∀ j, j < 26 → zLarge.cps.toList[j]? = some (65 + j) := by decide +kernel
theorem figures_at : ∀ j, j < 10 → zFigures.cps.toList[j]? = some (48 + j) := by decide +kernel
theorem ok_letter {f : Addr} {fd : FuncData} (T : Txt K mg CB fB CV CC CK aKW aPK) (F : Fun K "letter" "letter" sLetter f fd) : FnOk P w K mg base CX0 1 f fd ["code"] spLetter := by
  refine F.ok scLetter (fun vs H Q E h => ?_) (fun cdv A outer s H vs Q E hr h => ⟨_,
    pss_cons (ps_if (pt_chain op_le op_le pe_int (pv 0) pe_int) (pss_one (ps_ret (pe_ix ix_str (pe_gs T.small) (pe_op op_sub (pv 0) pe_int) (fun _ _ => rfl)))) pss_nil)
    (pss_cons (ps_if (pt_chain op_le op_le pe_int (pv 0) pe_int) (pss_one (ps_ret (pe_ix ix_str (pe_gs T.large) (pe_op op_sub (pv 0) pe_int) (fun _ _ => rfl)))) pss_nil)
    (pss_cons (ps_if (pt_chain op_le op_le pe_int (pv 0) pe_int) (pss_one (ps_ret (pe_ix ix_str (pe_gs T.figures) (pe_op op_sub (pv 0) pe_int) (fun _ _ => rfl)))) pss_nil)
    (pss_cons (ps_if (pt_cmpR op_eq (pv 0) pe_int (nomark _)) (pss_one (ps_ret pe_str)) pss_nil)
    (pss_one (ps_ret pe_str))))), ?_⟩)
  · obtain ⟨n, rfl, _⟩ := h
    rfl
  · obtain ⟨c, rfl, k⟩ := h
    -- a chain lo <= code <= hi, then one of the three tables
    have tab : ∀ (lo hi : Nat) (z : Str) (G : Prop), z.length ≤ sizeLine → (∀ j, lo + j ≤ hi → z.cps.toList[j]? = some (lo + j)) → (lo ≤ c.toNat → c.toNat ≤ hi → lc c = c) → (¬ (lo ≤ c.toNat ∧ c.toNat ≤ hi) → G) →
        ∃ v, (start ["code"] [V.int (c.toNat : Nat)])[0]? = some (some v) ∧ ∃ i j, V.int (lo : Nat) = .int i ∧ v = .int j ∧ ∃ k, V.bl (decide (i ≤ j)) = .bl k ∧
          (if k = true then ∃ i j, v = .int i ∧ V.int (hi : Nat) = .int j ∧ ∃ k, V.bl (decide (i ≤ j)) = .bl k ∧ (if k = true then
            ∃ v, (start ["code"] [V.int (c.toNat : Nat)])[0]? = some (some v) ∧ ∃ i j, v = .int i ∧ V.int (lo : Nat) = .int j ∧ ∃ z' i' c', V.str z = .str z' ∧ V.int (i - j) = .int i' ∧ z'.length ≤ sizeLine ∧ atI z'.cps.toList i' = some c' ∧ Q (.str ⟨#[c']⟩) H else G)
           else ∃ k, V.bl false = .bl k ∧ (if k = true then
            ∃ v, (start ["code"] [V.int (c.toNat : Nat)])[0]? = some (some v) ∧ ∃ i j, v = .int i ∧ V.int (lo : Nat) = .int j ∧ ∃ z' i' c', V.str z = .str z' ∧ V.int (i - j) = .int i' ∧ z'.length ≤ sizeLine ∧ atI z'.cps.toList i' = some c' ∧ Q (.str ⟨#[c']⟩) H else G)) := by
      intro lo hi z G hz hat hlc hG
      refine ⟨_, rfl, _, _, rfl, rfl, _, rfl, ?_⟩
      refine idc (fun c1 => ?_) (fun c1 => ?_)
      · refine ⟨_, _, rfl, rfl, _, rfl, ?_⟩
        refine idc (fun c2 => ?_) (fun c2 => ?_)
        · have h1 : lo ≤ c.toNat := by omega
          have h2 : c.toNat ≤ hi := by omega
          refine ⟨_, rfl, _, _, rfl, rfl, z, _, c.toNat, rfl, rfl, hz, ?_, ?_⟩
          · have e : ((c.toNat : Nat) : Int) - ((lo : Nat) : Int) = ((c.toNat - lo : Nat) : Int) := by omega
            rw [e]
            have := hat (c.toNat - lo) (by omega)
            rw [show lo + (c.toNat - lo) = c.toNat by omega] at this
            exact atI_nat this
          · rw [hlc h1 h2] at k
            exact k
        · exact hG fun z => c2 (by omega)
      · exact ⟨_, rfl, iteF (hG fun z => c1 (by omega))⟩
    refine tab 97 122 zSmall _ (by decide +kernel) (fun j hj => small_at j (by omega)) (fun a b => if_pos (.inl ⟨a, b⟩)) fun n1 => ?_
    refine tab 65 90 zLarge _ (by decide +kernel) (fun j hj => large_at j (by omega)) (fun a b => if_pos (.inr (.inl ⟨a, b⟩))) fun n2 => ?_
    refine tab 48 57 zFigures _ (by decide +kernel) (fun j hj => figures_at j (by omega)) (fun a b => if_pos (.inr (.inr (.inl ⟨a, b⟩)))) fun n3 => ?_
    refine ⟨_, rfl, rfl, _, rfl, ?_⟩
    refine idc (fun e => ?_) (fun e => ?_)
    · have e' : c.toNat = 95 := by
        have := V.int.inj e
        omega
      have : lc c = c := if_pos (.inr (.inr (.inr e')))
      rw [this, e'] at k
      exact k
    · have : lc c = 63 := if_neg (by
        rintro (h | h | h | h)
        · exact n1 h
        · exact n2 h
        · exact n3 h
        · exact e (by rw [h] <;> rfl))
      rw [this] at k
      exact k
end
end Ag

set_option maxRecDepth 100000
set_option maxHeartbeats 2000000
namespace Ag
open PySem PySem.Spec PyProof.Rows L2
open TL (tl joinL tl_join join_eq)
/-! ## texts of bytes -/
theorem tl_bS (b : Sw.Bytes) : tl (bS b) = b.map UInt8.toNat := by simp [bS, tl]
theorem bS_ext {x y : Str} (h : tl x = tl y) : x = y := by
  obtain ⟨⟨a⟩⟩ := x
  obtain ⟨⟨b⟩⟩ := y
  have : a = b := by simpa [tl] using h
  rw [this]
theorem toNat_inj_list : ∀ {a b : Sw.Bytes}, a.map UInt8.toNat = b.map UInt8.toNat → a = b
  | [], [], _ => rfl
  | [], _ :: _, h => by cases h
  | _ :: _, [], h => by cases h
  | x :: a, y :: b, h => by
    rw [List.map_cons, List.map_cons] at h
    obtain ⟨h1, h2⟩ := List.cons.inj h
    rw [UInt8.toNat_inj.mp h1, toNat_inj_list h2]
theorem bS_inj {a b : Sw.Bytes} (h : bS a = bS b) : a = b := toNat_inj_list (by rw [← tl_bS, ← tl_bS, h])
theorem bS_len (b : Sw.Bytes) : (bS b).length = b.length := by
  show ((b.map UInt8.toNat).toArray).size = b.length
  simp
theorem bS_one (c : UInt8) : (⟨#[c.toNat]⟩ : Str) = bS [c] := rfl
/-- signs joined by nothing -/
theorem join_bytes (b : Sw.Bytes) : Txt.join (Str.ofString "") (b.map fun c => bS [c]) = bS b := by
  refine bS_ext ?_
  rw [join_eq, tl_join, tl_bS]
  have e : tl (Str.ofString "") = [] := by rfl
  rw [e]
  have key : ∀ l : Sw.Bytes, joinL [] (l.map fun c => [c.toNat]) = l.map UInt8.toNat := by
    intro l
    induction l with
    | nil => rfl
    | cons a r ih =>
      cases r with
      | nil => rfl
      | cons a' r' =>
        show [a.toNat] ++ ([] ++ joinL [] ((a' :: r').map fun c => [c.toNat])) = _
        rw [ih]
        rfl
  rw [List.map_map]
  have : (tl ∘ fun c => bS [c]) = fun c : UInt8 => [c.toNat] := by
    funext c
    show tl (bS [c]) = _
    rw [tl_bS]; rfl
  rw [this]
  exact key b
theorem get_bS {b : Sw.Bytes} {i : Nat} {c : UInt8} (h : b[i]? = some c) : (bS b).cps.toList[i]? = some c.toNat := by
  show (tl (bS b))[i]? = _
  rw [tl_bS, List.getElem?_map, h]
  rfl
theorem bV_get {b : Sw.Bytes} {i : Nat} {v : V} (h : (bV b)[i]? = some v) : ∃ c, b[i]? = some c ∧ v = .int (c.toNat : Nat) := by
  unfold bV at h
  rw [List.getElem?_map] at h
  cases e : b[i]? with
  | none => rw [e] at h; cases h
  | some c => rw [e] at h; exact ⟨c, rfl, (Option.some.inj h).symm⟩
theorem take_more {α : Type} : ∀ {l : List α} {i : Nat} {x : α}, l[i]? = some x → l.take (i + 1) = l.take i ++ [x]
  | [], i, x, h => by simp at h
  | a :: l, 0, x, h => by
    have e : a = x := Option.some.inj h
    subst e
    rfl
  | a :: l, i + 1, x, h => by
    have ih := take_more (l := l) (i := i) (x := x) h
    show a :: l.take (i + 1) = a :: l.take i ++ [x]
    rw [ih]
    rfl
section
variable {P : Program} {w : World} {K : PySem.W.Frag} {mg : Str → Option Value} {base : Heap} {CB fB CV CC CK aKW aPK : Addr}
/-! ## word_of -/
theorem scWordOf : FnScope ["codes", "code"] ["codes"] (defScope sWordOf) := ⟨rfl, rfl, rfl, by decide +kernel, rfl, by decide +kernel, by decide +kernel⟩
def spWordOf (K : PySem.W.Frag) : Sp := fun vs H Q _ => ∃ (a : Addr) (b : Sw.Bytes), vs = [.ref a] ∧ SqL K H a (bV b) ∧ b.length ≤ 1000000 ∧ ∀ H', Same H H' → Q (.str (bS (b.map lc))) H'
theorem ok_wordOf {f fL : Addr} {fd fdL : FuncData} {psL : List Str} (F : Fun K "word_of" "word_of" sWordOf f fd) (GL : Gf P w K mg base CX0 1 "letter" fL fdL psL spLetter) : FnOk P w K mg base CX0 2 f fd ["codes"] (spWordOf K) := by
  refine F.ok scWordOf (fun vs H Q E h => ?_) (fun cdv A outer s H vs Q E hr h => ⟨_,
    pss_one (ps_ret (pe_join pe_str (pe_lc (own := [("code", 1)]) (g := gName 1) (tt := tYes) rfl scWordOf.nd (pi_list (pv 0)) (blkOk_by (own := [("code", 1)]) (N := ["codes", "code"]) (sc := defScope sWordOf) (by decide +kernel))
      (fun _ _ _ _ _ => pg_name (i := 1) scWordOf.nd rfl (Or.inl rfl)) (fun _ _ _ _ _ => pts_nil) (fun _ _ _ _ _ => pe_g GL hr pass0 (pa_cons (pv 1) pa_nil))))), ?_⟩)
  · obtain ⟨a, b, rfl, _⟩ := h
    rfl
  · obtain ⟨a, b, rfl, hq, hl, k⟩ := h
    refine ⟨⟨_, rfl⟩, _, rfl, a, rfl, ⟨_, hq⟩, fun D hD => ?_⟩
    refine lc_list (K := K) (a := a) (xs := bV b) (fun i H' => Same H H' ∧ H' D = some (.lst (((b.take i).map fun c => bS [lc c]).map V.str))) ⟨Same.new hD, upd_same⟩ (fun i H' _ h => h.1.seq hq) ?_ ?_
    · intro i x H' hx h
      obtain ⟨c, hc, rfl⟩ := bV_get hx
      refine ⟨rfl, ⟨_, rfl, c, rfl, _, h.2, ?_, ?_, ?_⟩⟩
      · rw [List.length_map, List.length_map, List.length_take, sz_eq]
        omega
      · exact fun b o e => by rw [upd_ne (ne_of_none e hD)]; exact h.1 b o e
      · rw [upd_same, take_more hc, List.map_append, List.map_append]
        rfl
    · intro H' h
      rw [bV_length, List.take_length] at h
      refine ⟨_, D, _, rfl, rfl, .inl (SqL.of h.2), ?_, ?_⟩
      · have : ∀ l : Sw.Bytes, ((l.map fun c => bS [lc c]).map (·.length)).sum = l.length := by
          intro l
          induction l with
          | nil => rfl
          | cons a r ih =>
            rw [List.map_cons, List.map_cons, List.sum_cons, ih, bS_len, List.length_cons]
            simp only [List.length_cons, List.length_nil]
            omega
        rw [this]
        show b.length + _ * 0 ≤ 16777216
        omega
      · have e : (b.map fun c => bS [lc c]) = (b.map lc).map fun c => bS [c] := by rw [List.map_map]; rfl
        rw [e, join_bytes]
        exact k _ h.1
end
end Ag

set_option maxRecDepth 100000
set_option maxHeartbeats 2000000
namespace Ag
open PySem PySem.Spec PyProof.Rows L2
open TL (tl joinL tl_join join_eq)
/-! ## is_name -/
theorem mem_tab {z : Str} {lo n : Nat} (h1 : ∀ c ∈ z.cps.toList, lo ≤ c ∧ c < lo + n) (h2 : ∀ j, j < n → z.cps.toList[j]? = some (lo + j)) (c : Nat) : c ∈ z.cps.toList ↔ lo ≤ c ∧ c < lo + n := by
  refine ⟨h1 c, fun h => ?_⟩
  have := h2 (c - lo) (by omega)
  rw [show lo + (c - lo) = c by omega] at this
  exact List.mem_of_getElem? this
theorem mem_small (c : Nat) : c ∈ zSmall.cps.toList ↔ 97 ≤ c ∧ c < 97 + 26 := mem_tab (by decide +kernel) small_at c
theorem mem_figures (c : Nat) : c ∈ zFigures.cps.toList ↔ 48 ≤ c ∧ c < 48 + 10 := mem_tab (by decide +kernel) figures_at c
theorem isSmall_iff (c : UInt8) : Sw.isSmall c = true ↔ c.toNat ∈ zSmall.cps.toList := by
  rw [mem_small]
  unfold Sw.isSmall
  simp only [Bool.and_eq_true, decide_eq_true_eq]
  omega
theorem isDigit_iff (c : UInt8) : Sw.isDigit c = true ↔ c.toNat ∈ zFigures.cps.toList := by
  rw [mem_figures]
  unfold Sw.isDigit
  simp only [Bool.and_eq_true, decide_eq_true_eq]
  omega
/-- the keywords in the text's order -/
def kwB : List Sw.Bytes := (["module", "use", "sort", "fact", "rule", "fun", "action", "allow", "deny", "must", "slot", "if", "then", "else", "not", "and", "or", "like", "in", "of", "list", "count", "sum", "least", "greatest", "over", "from", "by", "prev", "yes", "no", "yesno", "number", "bytes", "text", "moment", "id"] : List String).map Sw.ascii
theorem kw_bS : kwList = kwB.map bS := by decide +kernel
theorem kw_same (b : Sw.Bytes) : kwB.contains b = War.keywords.contains b := by
  have h1 : ∀ x ∈ kwB, x ∈ War.keywords := by decide +kernel
  have h2 : ∀ x ∈ War.keywords, x ∈ kwB := by decide +kernel
  rw [Bool.eq_iff_iff, List.contains_iff_mem, List.contains_iff_mem]
  exact ⟨h1 b, h2 b⟩

section
variable {P : Program} {w : World} {K : PySem.W.Frag} {mg : Str → Option Value} {base : Heap} {CB fB CV CC CK aKW aPK : Addr}
theorem scIsName : FnScope ["word", "sign"] ["word"] (defScope sIsName) := ⟨rfl, rfl, rfl, by decide +kernel, rfl, by decide +kernel, by decide +kernel⟩
def spIsName : Sp := fun vs H Q _ => ∃ b : Sw.Bytes, vs = [.str (bS b)] ∧ b.length ≤ 1000000 ∧ Q (.bl (War.isName b)) H
theorem isName_long {b : Sw.Bytes} (h : ¬ b.length ≤ 64) : War.isName b = false := by
  unfold War.isName
  have : decide (b.length ≤ War.WORD) = false := decide_eq_false h
  rw [this, Bool.false_and, Bool.and_false]
theorem isName_nil : War.isName [] = false := rfl
theorem isName_first {c : UInt8} {r : Sw.Bytes} (h : Sw.isSmall c = false) : War.isName (c :: r) = false := by
  unfold War.isName Sw.bare
  simp only [h, Bool.false_and]
theorem isName_bad {b : Sw.Bytes} {c : UInt8} (hm : c ∈ b) (h : Sw.inName c = false) : War.isName b = false := by
  unfold War.isName
  have : Sw.bare b = false := by
    cases b with
    | nil => rfl
    | cons a r =>
      show (Sw.isSmall a && r.all Sw.inName) = false
      rcases List.mem_cons.mp hm with rfl | hm
      · have : Sw.isSmall c = false := by
          unfold Sw.inName at h
          rw [Bool.or_eq_false_iff] at h
          exact h.1
        rw [this, Bool.false_and]
      · have : r.all Sw.inName = false := by
          rw [List.all_eq_false]
          exact ⟨c, hm, by rw [h]; exact Bool.false_ne_true⟩
        rw [this, Bool.and_false]
  rw [this, Bool.false_and]
theorem isName_good {c : UInt8} {r : Sw.Bytes} (h1 : Sw.isSmall c = true) (h2 : ∀ x ∈ c :: r, Sw.inName x = true) (h3 : (c :: r).length ≤ 64) : War.isName (c :: r) = !War.keywords.contains (c :: r) := by
  unfold War.isName
  have e1 : Sw.bare (c :: r) = true := by
    show (Sw.isSmall c && r.all Sw.inName) = true
    rw [h1, Bool.true_and, List.all_eq_true]
    exact fun x hx => h2 x (List.mem_cons_of_mem _ hx)
  have e2 : decide ((c :: r).length ≤ War.WORD) = true := decide_eq_true h3
  rw [e1, e2, Bool.true_and, Bool.true_and]
theorem inV_strs (b : Sw.Bytes) : inV (.str (bS b)) (kwList.map V.str) = War.keywords.contains b := by
  rw [← kw_same, kw_bS]
  unfold inV
  rw [List.map_map, List.any_map, Bool.eq_iff_iff, List.any_eq_true, List.contains_iff_mem]
  constructor
  · rintro ⟨x, hx, e⟩
    have : bS x = bS b := by
      have e' : (bS x == bS b) = true := e
      exact eq_of_beq e'
    rw [← bS_inj this]
    exact hx
  · intro h
    exact ⟨b, h, by show (bS b == bS b) = true; simp⟩
theorem ok_isName {f : Addr} {fd : FuncData} (T : Txt K mg CB fB CV CC CK aKW aPK) (F : Fun K "is_name" "is_name" sIsName f fd) : FnOk P w K mg base CX0 1 f fd ["word"] spIsName := by
  refine F.ok scIsName (fun vs H Q E h => ?_) (fun cdv A outer s H vs Q E hr h => ⟨_,
    pss_cons (ps_if (PW.pt (pw_or (pt_cmpR op_lt (pe_callB call_len (by rfl) T.len PySem.boot_len (pa_cons (pv 0) pa_nil)) pe_int (nomark _))
        (pw_or (pt_cmpR op_gt (pe_callB call_len (by rfl) T.len PySem.boot_len (pa_cons (pv 0) pa_nil)) pe_int (nomark _))
        (pw_or1 (pt_cmpR op_notIn_sign (pe_ix ix_str (pv 0) pe_int (fun _ _ => rfl)) (pe_gs T.small) rfl))))) (pss_one (ps_ret pe_bl)) pss_nil)
    (pss_cons (ps_for PassesOwn.never rfl (pi_str (pv 0)) (pg_name (i := 1) scIsName.nd rfl (Or.inl rfl))
        (pss_one (ps_if (PW.pt (pw_and (pt_cmpR op_notIn_sign (pv 1) (pe_gs T.small) rfl) (pw_and (pt_cmpR op_notIn_sign (pv 1) (pe_gs T.figures) rfl) (pw_and1 (pt_cmpR op_ne (pv 1) pe_str (nomark _)))))) (pss_one (ps_ret pe_bl)) pss_nil)))
    (pss_one (ps_ret (pe_cmpR op_notIn_seq (pv 0) (pe_gr T.kw) (by rfl))))), ?_⟩)
  · obtain ⟨b, rfl, _⟩ := h
    rfl
  · obtain ⟨b, rfl, hl, k⟩ := h
    refine ⟨_, rfl, _, _, rfl, ⟨by rw [bS_len, sz_eq]; omega, rfl⟩, _, _, rfl, rfl, _, rfl, ?_⟩
    refine idc (fun c0 => ?_) (fun c0 => ?_)
    · rw [bS_len] at c0
      have : b = [] := List.eq_nil_of_length_eq_zero (by omega)
      subst this
      exact iteT k
    rw [bS_len] at c0
    cases b with
    | nil => exact absurd (by decide) c0
    | cons c r =>
    refine ⟨_, rfl, _, _, rfl, ⟨by rw [bS_len, sz_eq]; omega, rfl⟩, _, _, rfl, rfl, _, rfl, ?_⟩
    refine idc (fun c1 => ?_) (fun c1 => ?_)
    · rw [bS_len] at c1
      rw [isName_long (by omega)] at k
      exact iteT k
    rw [bS_len] at c1
    refine ⟨_, rfl, _, _, c.toNat, rfl, rfl, by rw [bS_len, sz_eq]; omega, atI_nat (j := 0) (get_bS (b := c :: r) rfl), _, _, rfl, rfl, _, rfl, ?_⟩
    by_cases c2 : c.toNat ∈ zSmall.cps.toList
    · rw [decide_eq_true c2]
      refine iteF ?_
      have h1 := (isSmall_iff c).mpr c2
      -- the loop
      refine ⟨_, rfl, _, rfl, for_it (walk_str (z := bS (c :: r))) (fun i σ H' => H' = H ∧ (∃ v, σ = [some (.str (bS (c :: r))), v]) ∧ ∀ x ∈ (c :: r).take i, Sw.inName x = true) ⟨rfl, ⟨none, rfl⟩, by simp⟩ (fun _ _ _ _ _ => trivial) ?_ ?_⟩
      · rintro i x σ H1 H2 hi ⟨rfl, ⟨v, rfl⟩, hall⟩ ⟨rfl, n, hn, rfl⟩
        have hn' : (tl (bS (c :: r)))[i]? = some n := by
          have e : tl (bS (c :: r)) = (bS (c :: r)).cps.toList := rfl
          rw [e, Array.getElem?_toList]
          exact hn
        rw [tl_bS, List.getElem?_map] at hn'
        cases e : (c :: r)[i]? with
        | none => rw [e] at hn'; cases hn'
        | some d =>
        rw [e] at hn'
        obtain rfl : d.toNat = n := Option.some.inj hn'
        have next : Sw.inName d = true → ∀ x ∈ (c :: r).take (i + 1), Sw.inName x = true := fun hd x hx => by
          rw [take_more e] at hx
          rcases List.mem_append.mp hx with hx | hx
          · exact hall x hx
          · rw [List.mem_singleton.mp hx]; exact hd
        have good : Sw.inName d = true → ∃ v, [some (V.str (bS (c :: r))), some (V.str ⟨#[d.toNat]⟩)] = [some (V.str (bS (c :: r))), v] := fun _ => ⟨_, rfl⟩
        refine ⟨_, rfl, _, _, rfl, rfl, _, rfl, ?_⟩
        by_cases d1 : d.toNat ∈ zSmall.cps.toList
        · rw [decide_eq_true d1]
          have hd : Sw.inName d = true := by unfold Sw.inName; rw [(isSmall_iff d).mpr d1, Bool.true_or]
          exact iteF (iteF ⟨rfl, ⟨_, rfl⟩, next hd⟩)
        rw [decide_eq_false d1]
        refine iteT ⟨_, rfl, _, _, rfl, rfl, _, rfl, ?_⟩
        by_cases d2 : d.toNat ∈ zFigures.cps.toList
        · rw [decide_eq_true d2]
          have hd : Sw.inName d = true := by unfold Sw.inName; rw [(isDigit_iff d).mpr d2, Bool.true_or, Bool.or_true]
          exact iteF (iteF ⟨rfl, ⟨_, rfl⟩, next hd⟩)
        rw [decide_eq_false d2]
        refine iteT ⟨_, rfl, rfl, _, rfl, ?_⟩
        by_cases d3 : d = 95
        · subst d3
          exact iteF ⟨rfl, ⟨_, rfl⟩, next (by decide)⟩
        · have hd : Sw.inName d = false := by
            unfold Sw.inName
            have e1 : Sw.isSmall d = false := by
              cases q : Sw.isSmall d with
              | false => rfl
              | true => exact absurd ((isSmall_iff d).mp q) d1
            have e2 : Sw.isDigit d = false := by
              cases q : Sw.isDigit d with
              | false => rfl
              | true => exact absurd ((isDigit_iff d).mp q) d2
            have e3 : (d == 95) = false := beq_eq_false_iff_ne.mpr d3
            rw [e1, e2, e3]
            rfl
          have ne : V.str ⟨#[d.toNat]⟩ ≠ V.str "_" := fun z => d3 (by
            have z1 := V.str.inj z
            have z2 : bS [d] = bS [95] := z1
            exact (List.cons.inj (bS_inj z2)).1)
          refine itt (by rw [decide_eq_false ne]; rfl) ?_
          rw [isName_bad (List.mem_of_getElem? e) hd] at k
          exact k
      · rintro σ H1 ⟨rfl, ⟨v, rfl⟩, hall⟩
        have hz : (bS (c :: r)).cps.size = (c :: r).length := bS_len _
        rw [hz, List.take_length] at hall
        refine ⟨_, rfl, aKW, _, rfl, .inr (T.kwT _), rfl, by decide +kernel, ?_⟩
        rw [isName_good h1 hall (by omega)] at k
        rw [inV_strs]
        exact k
    · rw [decide_eq_false c2]
      have h1 : Sw.isSmall c = false := by
        cases q : Sw.isSmall c with
        | false => rfl
        | true => exact absurd ((isSmall_iff c).mp q) c2
      rw [isName_first h1] at k
      exact iteT k
end
end Ag

set_option maxRecDepth 100000
set_option maxHeartbeats 2000000
namespace Ag
open PySem PySem.Spec PyProof.Rows L2
open TL (tl joinL tl_join join_eq)
/-! ## words of bytes -/
/-- a text's bytes as a word -/
def wd (n : Sw.Bytes) : Sw.Bytes := n.map lc
theorem lc_eq {c x : UInt8} (h : lc c = x) (hx : x ≠ 63) : c = x := by
  unfold lc at h
  split at h
  · exact h
  · exact absurd h.symm hx
theorem lc_ne44 (c : UInt8) : lc c ≠ 44 := by
  unfold lc
  split
  · rename_i h
    rintro rfl
    revert h
    decide
  · decide
theorem wd_eq : ∀ {n w : Sw.Bytes}, wd n = w → (∀ x ∈ w, x ≠ 63) → n = w
  | [], w, h, _ => h
  | a :: r, [], h, _ => by cases h
  | a :: r, x :: w, h, hw => by
    obtain ⟨h1, h2⟩ := List.cons.inj (show lc a :: wd r = x :: w from h)
    rw [lc_eq h1 (hw x List.mem_cons_self), wd_eq h2 fun y hy => hw y (List.mem_cons_of_mem _ hy)]
theorem wd_ne44 (n : Sw.Bytes) : (44 : UInt8) ∉ wd n := fun h => by
  obtain ⟨c, _, e⟩ := List.mem_map.mp h
  exact lc_ne44 c e
theorem inName_lc {c : UInt8} (h : Sw.inName c = true) : lc c = c := by
  unfold lc
  refine if_pos ?_
  unfold Sw.inName Sw.isSmall Sw.isDigit at h
  simp only [Bool.or_eq_true, Bool.and_eq_true, decide_eq_true_eq, beq_iff_eq] at h
  rcases h with h | h | h
  · exact .inl h
  · exact .inr (.inr (.inl h))
  · exact .inr (.inr (.inr (by rw [h] <;> rfl)))
theorem lc_inName {c : UInt8} (h : Sw.inName (lc c) = true) : lc c = c := by
  by_cases e : lc c = 63
  · rw [e] at h
    exact absurd h (by decide)
  · exact (lc_eq rfl e).symm
theorem bare_all {n : Sw.Bytes} (h : Sw.bare n = true) : ∀ c ∈ n, Sw.inName c = true := by
  cases n with
  | nil => cases h
  | cons a r =>
    have h' : (Sw.isSmall a && r.all Sw.inName) = true := h
    rw [Bool.and_eq_true, List.all_eq_true] at h'
    intro c hc
    rcases List.mem_cons.mp hc with rfl | hc
    · unfold Sw.inName
      rw [h'.1, Bool.true_or]
    · exact h'.2 c hc
theorem wd_self {n : Sw.Bytes} (h : ∀ c ∈ n, lc c = c) : wd n = n := by
  unfold wd
  conv => rhs; rw [← List.map_id n]
  exact List.map_congr_left h
/-- a word is a name, just if the bytes are -/
theorem isName_wd (n : Sw.Bytes) : War.isName (wd n) = War.isName n := by
  by_cases h : Sw.bare n = true
  · rw [wd_self fun c hc => inName_lc (bare_all h c hc)]
  · by_cases h2 : Sw.bare (wd n) = true
    · have : wd n = n := wd_self fun c hc => lc_inName (bare_all h2 (lc c) (List.mem_map.mpr ⟨c, hc, rfl⟩))
      rw [this]
    · unfold War.isName
      rw [Bool.eq_false_iff.mpr h, Bool.eq_false_iff.mpr h2, Bool.false_and, Bool.false_and]
/-- a name stays as it is -/
theorem wd_name {n : Sw.Bytes} (h : War.isName n = true) : wd n = n := by
  unfold War.isName at h
  rw [Bool.and_eq_true] at h
  exact wd_self fun c hc => inName_lc (bare_all h.1 c hc)
/-! ## commas between -/
def cj : List Sw.Bytes → Sw.Bytes
  | [] => []
  | [x] => x
  | x :: y :: r => x ++ 44 :: cj (y :: r)
theorem cj_two (x y : Sw.Bytes) (r : List Sw.Bytes) : (44 : UInt8) ∈ cj (x :: y :: r) := by
  show (44 : UInt8) ∈ x ++ 44 :: cj (y :: r)
  simp
theorem cj_one {ns : List Sw.Bytes} {w : Sw.Bytes} (hw : (44 : UInt8) ∉ w) (hn : w ≠ []) (h : cj ns = w) : ns = [w] := by
  match ns, h with
  | [], h => exact absurd h.symm hn
  | [x], h => rw [show x = w from h]
  | x :: y :: r, h => exact absurd (h ▸ cj_two x y r) hw
theorem split_eq : ∀ {a b c d : Sw.Bytes}, (44 : UInt8) ∉ a → (44 : UInt8) ∉ c → a ++ 44 :: b = c ++ 44 :: d → a = c ∧ b = d
  | [], b, [], d, _, _, h => ⟨rfl, (List.cons.inj h).2⟩
  | [], b, y :: c, d, _, hc, h => absurd (show (44 : UInt8) ∈ y :: c by rw [← (List.cons.inj h).1]; exact List.mem_cons_self) hc
  | x :: a, b, [], d, ha, _, h => absurd (show (44 : UInt8) ∈ x :: a by rw [(List.cons.inj h).1]; exact List.mem_cons_self) ha
  | x :: a, b, y :: c, d, ha, hc, h => by
    obtain ⟨h1, h2⟩ := List.cons.inj (show x :: (a ++ 44 :: b) = y :: (c ++ 44 :: d) from h)
    obtain ⟨e1, e2⟩ := split_eq (fun z => ha (List.mem_cons_of_mem _ z)) (fun z => hc (List.mem_cons_of_mem _ z)) h2
    exact ⟨by rw [h1, e1], e2⟩
theorem cj_pair {ns : List Sw.Bytes} {u v : Sw.Bytes} (hns : ∀ n ∈ ns, (44 : UInt8) ∉ n) (hu : (44 : UInt8) ∉ u) (hv : (44 : UInt8) ∉ v) (hv0 : v ≠ []) (h : cj ns = u ++ 44 :: v) : ns = [u, v] := by
  match ns, h, hns with
  | [], h, _ =>
    have h' : ([] : Sw.Bytes) = u ++ 44 :: v := h
    exact absurd h'.symm (by simp)
  | [x], h, hns =>
    have : x = u ++ 44 :: v := h
    exact absurd (show (44 : UInt8) ∈ x by rw [this]; simp) (hns x List.mem_cons_self)
  | x :: y :: r, h, hns =>
    obtain ⟨e1, e2⟩ := split_eq (hns x List.mem_cons_self) hu (show x ++ 44 :: cj (y :: r) = u ++ 44 :: v from h)
    have := cj_one hv hv0 e2
    rw [e1, this]
theorem cj_join : ∀ ns : List Sw.Bytes, Txt.join (Str.ofString ",") (ns.map bS) = bS (cj ns) := by
  intro ns
  refine bS_ext ?_
  rw [join_eq, tl_join, tl_bS]
  have e : tl (Str.ofString ",") = [44] := by rfl
  rw [e, List.map_map]
  induction ns with
  | nil => rfl
  | cons a r ih =>
    cases r with
    | nil => exact tl_bS a
    | cons b r' =>
      show (tl ∘ bS) a ++ ([44] ++ joinL [44] (((b :: r').map (tl ∘ bS)))) = (a ++ 44 :: cj (b :: r')).map UInt8.toNat
      rw [ih, List.map_append, List.map_cons]
      show tl (bS a) ++ _ = _
      rw [tl_bS]
      rfl
/-- what shape_of says -/
def shp (tag : Nat) (names : List Sw.Bytes) : Sw.Bytes := if tag = 6 then cj (names.map wd) else [63]
theorem wds44 (names : List Sw.Bytes) : ∀ n ∈ names.map wd, (44 : UInt8) ∉ n := fun n h => by
  obtain ⟨m, _, rfl⟩ := List.mem_map.mp h
  exact wd_ne44 m
theorem shp_one {tag : Nat} {names : List Sw.Bytes} {w : Sw.Bytes} (h44 : (44 : UInt8) ∉ w) (h63 : ∀ x ∈ w, x ≠ 63) (hn : w ≠ []) (hw : wd w = w) : shp tag names = w ↔ tag = 6 ∧ names = [w] := by
  constructor
  · intro h
    unfold shp at h
    by_cases t : tag = 6
    · rw [if_pos t] at h
      refine ⟨t, ?_⟩
      have := cj_one h44 hn h
      match names, this with
      | [x], e =>
        have e' : wd x = w := (List.cons.inj e).1
        rw [wd_eq e' h63]
    · rw [if_neg t] at h
      exact absurd rfl (h63 63 (by rw [← h]; exact List.mem_cons_self))
  · rintro ⟨rfl, rfl⟩
    exact hw
theorem shp_two {tag : Nat} {names : List Sw.Bytes} {u v : Sw.Bytes} (hu : (44 : UInt8) ∉ u) (hv : (44 : UInt8) ∉ v) (hu3 : ∀ x ∈ u, x ≠ 63) (hv3 : ∀ x ∈ v, x ≠ 63) (hv0 : v ≠ []) (hwu : wd u = u) (hwv : wd v = v) :
    shp tag names = u ++ 44 :: v ↔ tag = 6 ∧ names = [u, v] := by
  constructor
  · intro h
    unfold shp at h
    by_cases t : tag = 6
    · rw [if_pos t] at h
      refine ⟨t, ?_⟩
      have := cj_pair (wds44 names) hu hv hv0 h
      match names, this with
      | [x, y], e =>
        have e1 : wd x = u := (List.cons.inj e).1
        have e2 : wd y = v := (List.cons.inj (List.cons.inj e).2).1
        rw [wd_eq e1 hu3, wd_eq e2 hv3]
    · rw [if_neg t] at h
      have : (44 : UInt8) ∈ ([63] : Sw.Bytes) := by rw [h]; simp
      exact absurd this (by decide)
  · rintro ⟨rfl, rfl⟩
    show wd u ++ 44 :: wd v = _
    rw [hwu, hwv]
def bList : Sw.Bytes := Sw.word "list"
def bRecord : Sw.Bytes := Sw.word "record"
def bIn : Sw.Bytes := Sw.word "in"
def bSort : Sw.Bytes := Sw.word "sort"
theorem shp_list (tag : Nat) (names : List Sw.Bytes) : shp tag names = bList ↔ tag = 6 ∧ names = [bList] := shp_one (by decide +kernel) (by decide +kernel) (by decide +kernel) (by decide +kernel)
theorem shp_record (tag : Nat) (names : List Sw.Bytes) : shp tag names = bRecord ↔ tag = 6 ∧ names = [bRecord] := shp_one (by decide +kernel) (by decide +kernel) (by decide +kernel) (by decide +kernel)
theorem shp_sort (tag : Nat) (names : List Sw.Bytes) : shp tag names = bIn ++ 44 :: bSort ↔ tag = 6 ∧ names = [bIn, bSort] :=
  shp_two (by decide +kernel) (by decide +kernel) (by decide +kernel) (by decide +kernel) (by decide +kernel) (by decide +kernel) (by decide +kernel)
/-- what text_word says -/
def txw (tag : Nat) (codes : Sw.Bytes) : Sw.Bytes := if tag = 4 ∧ codes.length ≤ 64 then wd codes else [63]
section
variable {P : Program} {w : World} {K : PySem.W.Frag} {mg : Str → Option Value} {base : Heap} {CB fB CV CC CK aKW aPK : Addr}
/-! ## are_names -/
theorem scAreNames : FnScope ["words", "word"] ["words"] (defScope sAreNames) := ⟨rfl, rfl, rfl, by decide +kernel, rfl, by decide +kernel, by decide +kernel⟩
/-- a record's names as they lie in the heap -/
def nmV (names : List Sw.Bytes) : List V := names.map fun n => V.str (bS (wd n))
def spAreNames (K : PySem.W.Frag) : Sp := fun vs H Q _ => ∃ (a : Addr) (ns : List Sw.Bytes), vs = [.ref a] ∧ SqL K H a (nmV ns) ∧ (∀ n ∈ ns, n.length ≤ 1000000) ∧ Q (.bl (ns.all War.isName)) H
theorem nmV_get {ns : List Sw.Bytes} {i : Nat} {v : V} (h : (nmV ns)[i]? = some v) : ∃ n, ns[i]? = some n ∧ v = .str (bS (wd n)) := by
  unfold nmV at h
  rw [List.getElem?_map] at h
  cases e : ns[i]? with
  | none => rw [e] at h; cases h
  | some c => rw [e] at h; exact ⟨c, rfl, (Option.some.inj h).symm⟩
theorem nmV_length (ns : List Sw.Bytes) : (nmV ns).length = ns.length := by unfold nmV; rw [List.length_map]
theorem wd_length (n : Sw.Bytes) : (wd n).length = n.length := by unfold wd; rw [List.length_map]
theorem ok_areNames {f fN : Addr} {fd fdN : FuncData} {psN : List Str} (F : Fun K "are_names" "are_names" sAreNames f fd) (GN : Gf P w K mg base CX0 1 "is_name" fN fdN psN spIsName) : FnOk P w K mg base CX0 2 f fd ["words"] (spAreNames K) := by
  refine F.ok scAreNames (fun vs H Q E h => ?_) (fun cdv A outer s H vs Q E hr h => ⟨_,
    pss_cons (ps_for PassesOwn.never rfl (pi_list (pv 0)) (pg_name (i := 1) scAreNames.nd rfl (Or.inl rfl))
      (pss_one (ps_if (pt_not (pt_val (pe_g GN hr pass0 (pa_cons (pv 1) pa_nil)))) (pss_one (ps_ret pe_bl)) pss_nil)))
    (pss_one (ps_ret pe_bl)), ?_⟩)
  · obtain ⟨a, b, rfl, _⟩ := h
    rfl
  · obtain ⟨a, ns, rfl, hq, hl, k⟩ := h
    refine ⟨_, rfl, a, rfl, ⟨_, hq⟩, for_list (K := K) (a := a) (xs := nmV ns) (fun i σ H' => H' = H ∧ (∃ v, σ = [some (.ref a), v]) ∧ ∀ n ∈ ns.take i, War.isName n = true) ⟨rfl, ⟨none, rfl⟩, by simp⟩ (fun i σ H' _ h => by rw [h.1]; exact hq) ?_ ?_⟩
    · rintro i x σ H' hx ⟨rfl, ⟨v, rfl⟩, hall⟩
      obtain ⟨n, hn, rfl⟩ := nmV_get hx
      refine ⟨_, rfl, wd n, rfl, by rw [wd_length]; exact hl n (List.mem_of_getElem? hn), _, rfl, ?_⟩
      rw [isName_wd]
      cases e : War.isName n with
      | true =>
        refine iteF ⟨rfl, ⟨_, rfl⟩, fun m hm => ?_⟩
        rw [take_more hn] at hm
        rcases List.mem_append.mp hm with hm | hm
        · exact hall m hm
        · rw [List.mem_singleton.mp hm]; exact e
      | false =>
        have : ns.all War.isName = false := by
          rw [List.all_eq_false]
          exact ⟨n, List.mem_of_getElem? hn, by rw [e]; exact Bool.false_ne_true⟩
        rw [this] at k
        exact iteT k
    · rintro σ H' ⟨rfl, ⟨v, rfl⟩, hall⟩
      rw [nmV_length, List.take_length] at hall
      have : ns.all War.isName = true := List.all_eq_true.mpr hall
      rw [this] at k
      exact k
/-! ## text_word -/
theorem scTextWord : FnScope ["value"] ["value"] (defScope sTextWord) := ⟨rfl, rfl, rfl, by decide +kernel, rfl, by decide +kernel, by decide +kernel⟩
def spTextWord (K : PySem.W.Frag) (CV : Addr) : Sp := fun vs H Q _ => ∃ (a : Addr) (i : VI) (codes : Sw.Bytes), vs = [.ref a] ∧ VObj CV H a i ∧ SqL K H i.cl (bV codes) ∧ (i.tag = 4 → codes.length ≤ 1000000) ∧ ∀ H', Same H H' → Q (.str (bS (txw i.tag codes))) H'
theorem ok_textWord {f fW : Addr} {fd fdW : FuncData} {psW : List Str} (T : Txt K mg CB fB CV CC CK aKW aPK) (F : Fun K "text_word" "text_word" sTextWord f fd) (GW : Gf P w K mg base CX0 2 "word_of" fW fdW psW (spWordOf K)) : FnOk P w K mg base CX0 3 f fd ["value"] (spTextWord K CV) := by
  refine F.ok scTextWord (fun vs H Q E h => ?_) (fun cdv A outer s H vs Q E hr h => ⟨_,
    pss_cons (ps_if (PW.pt (pw_or (pt_cmpR op_ne (pe_fld (pv 0) rfl) (pe_gi T.tTxt) (nomark _)) (pw_or1 (pt_cmpR op_gt (pe_callB call_len (by rfl) T.len PySem.boot_len (pa_cons (pe_fld (pv 0) rfl) pa_nil)) pe_int (nomark _))))) (pss_one (ps_ret pe_str)) pss_nil)
    (pss_one (ps_ret (pe_g GW hr pass0 (pa_cons (pe_fld (pv 0) rfl) pa_nil)))), ?_⟩)
  · obtain ⟨a, i, b, rfl, _⟩ := h
    rfl
  · obtain ⟨a, i, codes, rfl, ⟨dx, ha⟩, hq, hl, k⟩ := h
    refine ⟨_, rfl, a, CV, dx, _, _, rfl, ha, T.clV, T.vTag, vF_tag i, rfl, _, rfl, ?_⟩
    by_cases c1 : i.tag = 4
    · rw [c1] at k ⊢
      refine iteF ⟨_, rfl, a, CV, dx, _, _, rfl, ha, T.clV, T.vCodes, vF_codes i, _, _, rfl, .inl ⟨_, hq, rfl⟩, _, _, rfl, rfl, _, rfl, ?_⟩
      rw [bV_length]
      refine idc (fun c2 => ?_) (fun c2 => ?_)
      · have : txw 4 codes = [63] := if_neg (by omega)
        rw [this] at k
        exact k H (Same.refl H)
      · refine ⟨_, rfl, a, CV, dx, _, _, rfl, ha, T.clV, T.vCodes, vF_codes i, _, codes, rfl, hq, hl c1, fun H' sm => ?_⟩
        have : txw 4 codes = wd codes := if_pos (by omega)
        rw [this] at k
        exact k H' sm
    · have ne : V.int (i.tag : Nat) ≠ V.int 4 := fun z => c1 (by have := V.int.inj z; omega)
      refine itt (by rw [decide_eq_false ne]; rfl) (iteT ?_)
      have : txw i.tag codes = [63] := if_neg (by omega)
      rw [this] at k
      exact k H (Same.refl H)
/-! ## shape_of -/
theorem scShapeOf : FnScope ["value"] ["value"] (defScope sShapeOf) := ⟨rfl, rfl, rfl, by decide +kernel, rfl, by decide +kernel, by decide +kernel⟩
def spShapeOf (K : PySem.W.Frag) (CV : Addr) : Sp := fun vs H Q _ => ∃ (a : Addr) (i : VI) (names : List Sw.Bytes), vs = [.ref a] ∧ VObj CV H a i ∧ SqL K H i.nl (nmV names) ∧ (names.map (·.length)).sum + names.length ≤ 1000000 ∧ Q (.str (bS (shp i.tag names))) H
theorem ok_shapeOf {f : Addr} {fd : FuncData} (T : Txt K mg CB fB CV CC CK aKW aPK) (F : Fun K "shape_of" "shape_of" sShapeOf f fd) : FnOk P w K mg base CX0 1 f fd ["value"] (spShapeOf K CV) := by
  refine F.ok scShapeOf (fun vs H Q E h => ?_) (fun cdv A outer s H vs Q E hr h => ⟨_,
    pss_cons (ps_if (pt_cmpR op_ne (pe_fld (pv 0) rfl) (pe_gi T.tRec) (nomark _)) (pss_one (ps_ret pe_str)) pss_nil)
    (pss_one (ps_ret (pe_join pe_str (pe_fld (pv 0) rfl)))), ?_⟩)
  · obtain ⟨a, i, b, rfl, _⟩ := h
    rfl
  · obtain ⟨a, i, names, rfl, ⟨dx, ha⟩, hq, hl, k⟩ := h
    refine ⟨_, rfl, a, CV, dx, _, _, rfl, ha, T.clV, T.vTag, vF_tag i, rfl, _, rfl, ?_⟩
    by_cases c1 : i.tag = 6
    · rw [c1] at k ⊢
      have e : names.map (fun n => bS (wd n)) = (names.map wd).map bS := by rw [List.map_map]; rfl
      refine iteF ⟨⟨_, rfl⟩, _, rfl, a, CV, dx, _, _, rfl, ha, T.clV, T.vNames, vF_names i, _, _, names.map (fun n => bS (wd n)), rfl, rfl, .inl ?_, ?_, ?_⟩
      · rw [List.map_map]; exact hq
      · have : (names.map (fun n => bS (wd n))).map (·.length) = names.map (·.length) := by
          rw [List.map_map]
          exact List.map_congr_left fun n _ => by show (bS (wd n)).length = _; rw [bS_len, wd_length]
        rw [this, List.length_map]
        show _ + _ * 1 ≤ 16777216
        omega
      · rw [e, cj_join]
        have : shp 6 names = cj (names.map wd) := if_pos rfl
        rw [this] at k
        exact k
    · have ne : V.int (i.tag : Nat) ≠ V.int 6 := fun z => c1 (by have := V.int.inj z; omega)
      refine itt (by rw [decide_eq_false ne]; rfl) ?_
      have : shp i.tag names = [63] := if_neg c1
      rw [this] at k
      exact k
end
end Ag

set_option maxRecDepth 100000
set_option maxHeartbeats 2000000
namespace Ag
open PySem PySem.Spec PyProof.Rows L2
open TL (tl joinL tl_join join_eq)
section
variable {P : Program} {w : World} {K : PySem.W.Frag} {mg : Str → Option Value} {base : Heap} {CB fB CV CC CK aKW aPK : Addr}
theorem scNameBytes : FnScope ["word", "sign"] ["word"] (defScope sNameBytes) := ⟨rfl, rfl, rfl, by decide +kernel, rfl, by decide +kernel, by decide +kernel⟩
def spNameB : Sp := fun vs H Q _ => ∃ b : Sw.Bytes, vs = [.str (bS b)] ∧ b.length ≤ 1000000 ∧ NewB H (Sw.vary b.length ++ b) Q
theorem vary5 {n : Nat} (h : n < 4294967296) : (Sw.vary n).length ≤ 5 := vary_length 5 n (by omega) (by omega)
theorem ok_nameBytes {f fY : Addr} {fd fdY : FuncData} {psY : List Str} (T : Txt K mg CB fB CV CC CK aKW aPK) (F : Fun K "name_bytes" "name_bytes" sNameBytes f fd) (GY : Gf P w K mg base CX0 1 "varying_bytes" fY fdY psY spVary) : FnOk P w K mg base CX0 2 f fd ["word"] spNameB := by
  refine F.ok scNameBytes (fun vs H Q E h => ?_) (fun cdv A outer s H vs Q E hr h => ⟨_,
    pss_one (ps_ret (pe_op op_cat (pe_g GY hr pass0 (pa_cons (pe_callB call_len (by rfl) T.len PySem.boot_len (pa_cons (pv 0) pa_nil)) pa_nil))
      (pe_lc (own := [("sign", 1)]) (g := gName 1) (tt := tYes) rfl scNameBytes.nd (pi_str (pv 0)) (blkOk_by (own := [("sign", 1)]) (N := ["word", "sign"]) (sc := defScope sNameBytes) (by decide +kernel))
      (fun _ _ _ _ _ => pg_name (i := 1) scNameBytes.nd rfl (Or.inl rfl)) (fun _ _ _ _ _ => pts_nil) (fun _ _ _ _ _ => pe_callB call_ord (by rfl) T.ord (by decide +kernel) (pa_cons (pv 1) pa_nil))))), ?_⟩)
  · obtain ⟨b, rfl, _⟩ := h
    rfl
  · obtain ⟨b, rfl, hl, k⟩ := h
    refine ⟨_, rfl, _, _, rfl, ⟨by rw [bS_len, sz_eq]; omega, rfl⟩, b.length, by rw [bS_len]; rfl, by omega, fun p H1 hp sm hH => ?_⟩
    refine ⟨_, rfl, _, rfl, fun D hD => ?_⟩
    refine lc_it (walk_str (z := bS b)) (fun i H' => Same H1 H' ∧ H' D = some (.lst (bV (b.take i)))) ⟨Same.new hD, upd_same⟩ (fun _ _ _ _ => trivial) ?_ ?_
    · rintro i x H2 H3 hi ⟨s2, h2⟩ ⟨rfl, n, hn, rfl⟩
      have hn' : (tl (bS b))[i]? = some n := by
        have e : tl (bS b) = (bS b).cps.toList := rfl
        rw [e, Array.getElem?_toList]
        exact hn
      rw [tl_bS, List.getElem?_map] at hn'
      cases e : b[i]? with
      | none => rw [e] at hn'; cases hn'
      | some d =>
      rw [e] at hn'
      obtain rfl : d.toNat = n := Option.some.inj hn'
      refine ⟨rfl, ⟨_, rfl, _, rfl, rfl, _, h2, ?_, ?_, ?_⟩⟩
      · rw [bV_length, List.length_take, sz_eq]
        omega
      · exact fun c o eo => by rw [upd_ne (ne_of_none eo hD)]; exact s2 c o eo
      · rw [upd_same, take_more e, bV_append]
        rfl
    · rintro H2 ⟨s2, h2⟩
      have hz : (bS b).cps.size = b.length := bS_len _
      rw [hz, List.take_length] at h2
      refine ⟨p, D, _, _, rfl, rfl, s2 _ _ hH, h2, ?_, fun q hq => ?_⟩
      · have := vary5 (n := b.length) (by omega)
        rw [bV_length, bV_length, sz_eq]
        omega
      · rw [← bV_append]
        exact k q _ (Same.free (sm.trans s2) hq) (Same.new' (sm.trans s2) hq) upd_same
theorem scTextBytes : FnScope ["word"] ["word"] (defScope sTextBytes) := ⟨rfl, rfl, rfl, by decide +kernel, rfl, by decide +kernel, by decide +kernel⟩
def spTextB : Sp := fun vs H Q _ => ∃ b : Sw.Bytes, vs = [.str (bS b)] ∧ b.length ≤ 1000000 ∧ NewB H (4 :: (Sw.vary b.length ++ b)) Q
theorem ok_textBytes {f fY : Addr} {fd fdY : FuncData} {psY : List Str} (F : Fun K "text_bytes" "text_bytes" sTextBytes f fd) (GY : Gf P w K mg base CX0 2 "name_bytes" fY fdY psY spNameB) : FnOk P w K mg base CX0 3 f fd ["word"] spTextB := by
  refine F.ok scTextBytes (fun vs H Q E h => ?_) (fun cdv A outer s H vs Q E hr h => ⟨_,
    pss_one (ps_ret (pe_op op_cat (pe_lst (pa_cons pe_int pa_nil)) (pe_g GY hr pass0 (pa_cons (pv 0) pa_nil)))), ?_⟩)
  · obtain ⟨b, rfl, _⟩ := h
    rfl
  · obtain ⟨b, rfl, hl, k⟩ := h
    refine ⟨(by show 1 ≤ sizeLine; rw [sz_eq]; decide), fun D hD => ?_⟩
    refine ⟨_, rfl, b, rfl, hl, fun p H1 hp sm hH => ?_⟩
    have hb : H1 D = some (.lst (bV [4])) := sm _ _ upd_same
    refine ⟨D, p, _, _, rfl, rfl, hb, hH, ?_, fun q hq => ?_⟩
    · have := vary5 (n := b.length) (by omega)
      rw [bV_length, bV_length, List.length_append, sz_eq]
      simp only [List.length_cons, List.length_nil]
      omega
    · rw [← bV_append]
      have s2 : Same H H1 := (Same.new hD).trans sm
      exact k q _ (Same.free s2 hq) (Same.new' s2 hq) upd_same
theorem scRecordHead : FnScope ["many"] ["many"] (defScope sRecordHead) := ⟨rfl, rfl, rfl, by decide +kernel, rfl, by decide +kernel, by decide +kernel⟩
def spRecHead : Sp := fun vs H Q _ => ∃ n : Nat, vs = [.int n] ∧ n < 4294967296 ∧ NewB H (6 :: Sw.vary n) Q
theorem ok_recordHead {f fY : Addr} {fd fdY : FuncData} {psY : List Str} (F : Fun K "record_head" "record_head" sRecordHead f fd) (GY : Gf P w K mg base CX0 1 "varying_bytes" fY fdY psY spVary) : FnOk P w K mg base CX0 2 f fd ["many"] spRecHead := by
  refine F.ok scRecordHead (fun vs H Q E h => ?_) (fun cdv A outer s H vs Q E hr h => ⟨_,
    pss_one (ps_ret (pe_op op_cat (pe_lst (pa_cons pe_int pa_nil)) (pe_g GY hr pass0 (pa_cons (pv 0) pa_nil)))), ?_⟩)
  · obtain ⟨b, rfl, _⟩ := h
    rfl
  · obtain ⟨n, rfl, hl, k⟩ := h
    refine ⟨(by show 1 ≤ sizeLine; rw [sz_eq]; decide), fun D hD => ?_⟩
    refine ⟨_, rfl, n, rfl, hl, fun p H1 hp sm hH => ?_⟩
    have hb : H1 D = some (.lst (bV [6])) := sm _ _ upd_same
    refine ⟨D, p, _, _, rfl, rfl, hb, hH, ?_, fun q hq => ?_⟩
    · have := vary5 (n := n) (by omega)
      rw [bV_length, bV_length, sz_eq]
      simp only [List.length_cons, List.length_nil]
      omega
    · rw [← bV_append]
      have s2 : Same H H1 := (Same.new hD).trans sm
      exact k q _ (Same.free s2 hq) (Same.new' s2 hq) upd_same
end
end Ag

set_option maxRecDepth 100000
set_option maxHeartbeats 2000000
namespace Ag
open Sw
/-! # Reading values: what the text's readers do, over plain lists -/
def toO {ε α : Type} : Except ε α → Option α
  | .ok a => some a
  | .error _ => none
/-! ## varying numbers -/
/-- turns left, the amount, the turn's number -/
def vGo : Nat → Nat → Nat → Bytes → Option (Nat × Nat)
  | 0, _, _, _ => none
  | _ + 1, _, _, [] => none
  | k + 1, a, i, c :: r =>
    if c.toNat < 128 then (if (c.toNat = 0 ∧ 0 < i) ∨ 4294967295 < a + c.toNat % 128 * 128 ^ i then none else some (a + c.toNat % 128 * 128 ^ i, i + 1)) else vGo k (a + c.toNat % 128 * 128 ^ i) (i + 1) r
def mVary (l : Bytes) : Option (Nat × Nat) := vGo 5 0 0 l
theorem u8_zero {c : UInt8} : c = 0 ↔ c.toNat = 0 := by
  constructor
  · rintro rfl; rfl
  · intro h; exact UInt8.toNat_inj.mp h
def val (h : Bytes) : Nat := h.foldr (fun (x : UInt8) (m : Nat) => x.toNat % 128 + 128 * m) 0
theorem val_append : ∀ (h : Bytes) (c : UInt8), val (h ++ [c]) = val h + c.toNat % 128 * 128 ^ h.length
  | [], c => by simp [val]
  | a :: r, c => by
    show a.toNat % 128 + 128 * val (r ++ [c]) = a.toNat % 128 + 128 * val r + c.toNat % 128 * 128 ^ (r.length + 1)
    rw [val_append r c, Nat.pow_succ, Nat.mul_add, ← Nat.add_assoc]
    congr 1
    rw [Nat.mul_comm 128, Nat.mul_assoc]
theorem vary_at (p : Nat) (b h : Bytes) (e : (b.take 5).takeWhile (fun (c : UInt8) => decide (128 ≤ c.toNat)) = h) : varyOf p b = (if h.length = 5 then .error ⟨3, p⟩ else match b.drop h.length with
    | [] => .error ⟨1, p + b.length⟩
    | c :: _ => if h.length > 0 ∧ c = 0 then .error ⟨3, p⟩ else if 2 ^ 32 ≤ val (h ++ [c]) then .error ⟨3, p⟩ else .ok (val (h ++ [c]), h.length + 1)) := by
  subst e
  rfl
theorem take_while_all {α : Type} (q : α → Bool) : ∀ l : List α, (∀ x ∈ l, q x = true) → l.takeWhile q = l
  | [], _ => rfl
  | a :: r, h => by
    rw [List.takeWhile_cons, if_pos (h a List.mem_cons_self), take_while_all q r fun x hx => h x (List.mem_cons_of_mem _ hx)]
theorem take_while_stop {α : Type} (q : α → Bool) : ∀ (l : List α) (c : α) (r : List α), (∀ x ∈ l, q x = true) → q c = false → (l ++ c :: r).takeWhile q = l
  | [], c, r, _, hc => by rw [List.nil_append, List.takeWhile_cons, hc]; rfl
  | a :: l, c, r, h, hc => by
    rw [List.cons_append, List.takeWhile_cons, if_pos (h a List.mem_cons_self), take_while_stop q l c r (fun x hx => h x (List.mem_cons_of_mem _ hx)) hc]
theorem vary_go (p : Nat) : ∀ (k : Nat) (h l : Bytes), h.length + k = 5 → (∀ x ∈ h, decide (128 ≤ x.toNat) = true) → toO (varyOf p (h ++ l)) = vGo k (val h) h.length l
  | 0, h, l, hk, hh => by
    have e : ((h ++ l).take 5).takeWhile (fun (c : UInt8) => decide (128 ≤ c.toNat)) = h := by
      have : (h ++ l).take 5 = h := by rw [List.take_append_of_le_length (by omega), List.take_of_length_le (by omega)]
      rw [this, take_while_all _ h hh]
    rw [vary_at p _ h e, if_pos (by omega)]
    rfl
  | k + 1, h, [], hk, hh => by
    have e : ((h ++ []).take 5).takeWhile (fun (c : UInt8) => decide (128 ≤ c.toNat)) = h := by
      rw [List.append_nil, List.take_of_length_le (by omega), take_while_all _ h hh]
    rw [vary_at p _ h e, if_neg (by omega), List.append_nil, List.drop_length]
    rfl
  | k + 1, h, c :: r, hk, hh => by
    by_cases hc : c.toNat < 128
    · have e : ((h ++ c :: r).take 5).takeWhile (fun (c : UInt8) => decide (128 ≤ c.toNat)) = h := by
        have : (h ++ c :: r).take 5 = h ++ c :: r.take (4 - h.length) := by
          rw [List.take_append]
          rw [List.take_of_length_le (by omega), show 5 - h.length = (4 - h.length) + 1 by omega, List.take_succ_cons]
        rw [this]
        exact take_while_stop _ h c _ hh (decide_eq_false (by omega))
      rw [vary_at p _ h e, if_neg (by omega), List.drop_left, vGo, if_pos hc]
      show toO (if h.length > 0 ∧ c = 0 then _ else if 2 ^ 32 ≤ val (h ++ [c]) then _ else _) = _
      rw [val_append]
      by_cases z : h.length > 0 ∧ c = 0
      · rw [if_pos z, if_pos (.inl ⟨u8_zero.mp z.2, z.1⟩)]
        rfl
      · rw [if_neg z]
        by_cases g : 2 ^ 32 ≤ val h + c.toNat % 128 * 128 ^ h.length
        · rw [if_pos g, if_pos (.inr (by omega))]
          rfl
        · rw [if_neg g, if_neg (by
            rintro (q | q)
            · exact z ⟨q.2, u8_zero.mpr q.1⟩
            · omega)]
          rfl
    · have ih := vary_go p k (h ++ [c]) r (by rw [List.length_append]; simp; omega) (fun x hx => by
        rcases List.mem_append.mp hx with hx | hx
        · exact hh x hx
        · rw [List.mem_singleton.mp hx]; exact decide_eq_true (by omega))
      rw [List.append_assoc] at ih
      rw [vGo, if_neg hc]
      refine ih.trans ?_
      rw [val_append, List.length_append]
      rfl
theorem mVary_eq (p : Nat) (b : Bytes) : toO (varyOf p b) = mVary b := vary_go p 5 [] b rfl (by simp)
theorem vGo_used : ∀ (k a i : Nat) (l : Bytes) (n u : Nat), vGo k a i l = some (n, u) → i + 1 ≤ u ∧ u ≤ i + l.length ∧ u ≤ i + k ∧ n ≤ 4294967295
  | 0, _, _, _, _, _, h => by cases h
  | k + 1, _, _, [], _, _, h => by cases h
  | k + 1, a, i, c :: r, n, u, h => by
    rw [vGo] at h
    by_cases hc : c.toNat < 128
    · rw [if_pos hc] at h
      split at h
      · cases h
      · rename_i g
        injection h with h
        injection h with h1 h2
        subst h1 h2
        rw [List.length_cons]
        omega
    · rw [if_neg hc] at h
      have := vGo_used k _ _ r n u h
      rw [List.length_cons]
      omega
theorem mVary_used {l : Bytes} {n u : Nat} (h : mVary l = some (n, u)) : 1 ≤ u ∧ u ≤ l.length ∧ u ≤ 5 ∧ n ≤ 4294967295 := by
  have := vGo_used 5 0 0 l n u h
  omega
/-! ## UTF-8 -/
def mFollow : Nat → Nat → Nat → Bytes → Bool
  | 0, _, _, _ => true
  | _ + 1, _, _, [] => false
  | k + 1, lo, hi, c :: r => decide (lo ≤ c.toNat ∧ c.toNat ≤ hi) && mFollow k 128 191 r
/-- one sign: how many bytes -/
def mSign : Bytes → Option Nat
  | [] => none
  | c :: r => match leads c.toNat with
    | none => none
    | some (k, lo, hi) => if mFollow k lo hi r = true then some (k + 1) else none
def mText : Nat → Bytes → Bool
  | _, [] => true
  | 0, _ :: _ => false
  | f + 1, c :: r => match mSign (c :: r) with
    | none => false
    | some k => mText f ((c :: r).drop k)
theorem follow_ok : ∀ (k lo hi x p : Nat) (b : Bytes), (mFollow k lo hi b = true → ∃ y, follow k lo hi x p b = .ok (y, b.drop k)) ∧ (mFollow k lo hi b = false → ∃ q, follow k lo hi x p b = .error q)
  | 0, _, _, x, _, b => ⟨fun _ => ⟨x, rfl⟩, fun h => (by cases h)⟩
  | k + 1, _, _, _, p, [] => ⟨fun h => (by cases h), fun _ => ⟨p, rfl⟩⟩
  | k + 1, lo, hi, x, p, c :: b => by
    have ih := follow_ok k 0x80 0xBF (64 * x + c.toNat % 64) (p + 1) b
    show ((decide (lo ≤ c.toNat ∧ c.toNat ≤ hi) && mFollow k 128 191 b) = true → ∃ y, (if lo ≤ c.toNat ∧ c.toNat ≤ hi then follow k 0x80 0xBF (64 * x + c.toNat % 64) (p + 1) b else .error p) = .ok (y, b.drop k)) ∧ ((decide (lo ≤ c.toNat ∧ c.toNat ≤ hi) && mFollow k 128 191 b) = false → ∃ q, (if lo ≤ c.toNat ∧ c.toNat ≤ hi then follow k 0x80 0xBF (64 * x + c.toNat % 64) (p + 1) b else .error p) = .error q)
    by_cases g : lo ≤ c.toNat ∧ c.toNat ≤ hi
    · rw [if_pos g, decide_eq_true g, Bool.true_and]
      exact ih
    · rw [if_neg g, decide_eq_false g, Bool.false_and]
      exact ⟨fun h => (by cases h), fun _ => ⟨p, rfl⟩⟩
theorem leads_le {c k lo hi : Nat} (h : leads c = some (k, lo, hi)) : k ≤ 3 := by
  unfold leads at h
  repeat (split at h; first | (injection h with h; injection h with h1 h2; omega) | cases h)
  cases h
def signOf (o : Option (Nat × Nat × Nat)) (r : Bytes) : Option Nat := match o with
  | none => none
  | some (k, lo, hi) => if mFollow k lo hi r = true then some (k + 1) else none
theorem mSign_cons (c : UInt8) (r : Bytes) : mSign (c :: r) = signOf (leads c.toNat) r := rfl
def scOf (p : Nat) (c : UInt8) (o : Option (Nat × Nat × Nat)) (r : Bytes) : Except Nat (Nat × Bytes) := match o with
  | none => .error p
  | some (k, lo, hi) => follow k lo hi (firstBits k c.toNat) (p + 1) r
theorem scalarAt_cons (p : Nat) (c : UInt8) (r : Bytes) : scalarAt p (c :: r) = scOf p c (leads c.toNat) r := rfl
theorem sign_ok (p : Nat) (c : UInt8) (r : Bytes) : (∀ k, mSign (c :: r) = some k → ∃ y, scalarAt p (c :: r) = .ok (y, (c :: r).drop k)) ∧ (mSign (c :: r) = none → ∃ q, scalarAt p (c :: r) = .error q) := by
  rw [mSign_cons, scalarAt_cons]
  cases e : leads c.toNat with
  | none => exact ⟨fun k h => (by cases h), fun _ => ⟨p, rfl⟩⟩
  | some t =>
    obtain ⟨k, lo, hi⟩ := t
    have f := follow_ok k lo hi (firstBits k c.toNat) (p + 1) r
    show (∀ k', (if mFollow k lo hi r = true then some (k + 1) else none) = some k' → ∃ y, follow k lo hi (firstBits k c.toNat) (p + 1) r = .ok (y, (c :: r).drop k')) ∧ ((if mFollow k lo hi r = true then some (k + 1) else none) = none → ∃ q, follow k lo hi (firstBits k c.toNat) (p + 1) r = .error q)
    cases g : mFollow k lo hi r with
    | true =>
      refine ⟨fun k' h => ?_, fun h => (by simp at h)⟩
      have h' : k + 1 = k' := by simpa using h
      subst h'
      exact f.1 g
    | false =>
      exact ⟨fun k' h => (by simp at h), fun _ => f.2 g⟩
theorem sign_pos {l : Bytes} {k : Nat} (h : mSign l = some k) : 1 ≤ k := by
  unfold mSign at h
  split at h
  · cases h
  · split at h
    · cases h
    · split at h
      · injection h with h; omega
      · cases h
theorem text_ok : ∀ (f p : Nat) (b : Bytes), (mText f b = true ↔ ∃ t, scalarsFrom f p b = .ok t)
  | 0, p, [] => ⟨fun _ => ⟨[], rfl⟩, fun _ => rfl⟩
  | f + 1, p, [] => ⟨fun _ => ⟨[], rfl⟩, fun _ => rfl⟩
  | 0, p, c :: r => ⟨fun h => (by cases h), fun ⟨t, h⟩ => (by cases h)⟩
  | f + 1, p, c :: r => by
    have s := sign_ok p c r
    unfold mText scalarsFrom
    cases e : mSign (c :: r) with
    | none =>
      obtain ⟨q, hq⟩ := s.2 e
      rw [hq]
      exact ⟨fun h => (by cases h), fun ⟨t, h⟩ => (by cases h)⟩
    | some k =>
      obtain ⟨y, hy⟩ := s.1 k e
      rw [hy]
      have ih := text_ok f (p + ((c :: r).length - ((c :: r).drop k).length)) ((c :: r).drop k)
      show mText f ((c :: r).drop k) = true ↔ ∃ t, (scalarsFrom f (p + ((c :: r).length - ((c :: r).drop k).length)) ((c :: r).drop k)).map (fun (l : List Nat) => y :: l) = .ok t
      rw [ih]
      constructor
      · rintro ⟨t, ht⟩
        exact ⟨y :: t, by rw [ht]; rfl⟩
      · rintro ⟨t, ht⟩
        cases e2 : scalarsFrom f (p + ((c :: r).length - ((c :: r).drop k).length)) ((c :: r).drop k) with
        | error q => rw [e2] at ht; cases ht
        | ok t' => exact ⟨t', rfl⟩
/-- more steps than bytes change nothing -/
theorem text_fuel : ∀ (f g : Nat) (b : Bytes), b.length ≤ f → b.length ≤ g → mText f b = mText g b
  | 0, 0, _, _, _ => rfl
  | 0, g + 1, [], _, _ => rfl
  | f + 1, 0, [], _, _ => rfl
  | f + 1, g + 1, [], _, _ => rfl
  | f + 1, g + 1, c :: r, hf, hg => by
    unfold mText
    cases e : mSign (c :: r) with
    | none => rfl
    | some k =>
      have := sign_pos e
      refine text_fuel f g _ ?_ ?_
      · rw [List.length_drop]; rw [List.length_cons] at hf ⊢; omega
      · rw [List.length_drop]; rw [List.length_cons] at hg ⊢; omega
  | 0, _ + 1, _ :: _, hf, _ => by rw [List.length_cons] at hf; omega
  | _ + 1, 0, _ :: _, _, hg => by rw [List.length_cons] at hg; omega
/-- bytes that are UTF-8 -/
def okT (b : Bytes) : Bool := mText b.length b
theorem okT_nil : okT [] = true := rfl
theorem okT_cons (c : UInt8) (r : Bytes) : okT (c :: r) = match mSign (c :: r) with
    | none => false
    | some k => okT ((c :: r).drop k) := by
  show mText (r.length + 1) (c :: r) = _
  unfold mText
  cases e : mSign (c :: r) with
  | none => rfl
  | some k =>
    have := sign_pos e
    refine text_fuel _ _ _ ?_ (Nat.le_refl _)
    rw [List.length_drop, List.length_cons]; omega
theorem okT_iff (p : Nat) (b : Bytes) : okT b = true ↔ ∃ t, scalars p b = .ok t := text_ok b.length p b
/-! ## what's read, written again -/
theorem ofNat_toNat {c : UInt8} {n : Nat} (h : n = c.toNat) : UInt8.ofNat n = c := by
  subst h
  exact UInt8.ofNat_toNat
theorem follow_step {k lo hi x p : Nat} {b : Bytes} {y : Nat} {rest : Bytes} (h : follow (k + 1) lo hi x p b = .ok (y, rest)) : ∃ c b', b = c :: b' ∧ lo ≤ c.toNat ∧ c.toNat ≤ hi ∧ follow k 0x80 0xBF (64 * x + c.toNat % 64) (p + 1) b' = .ok (y, rest) := by
  cases b with
  | nil => cases h
  | cons c b' =>
    have h' : (if lo ≤ c.toNat ∧ c.toNat ≤ hi then follow k 0x80 0xBF (64 * x + c.toNat % 64) (p + 1) b' else .error p) = .ok (y, rest) := h
    by_cases g : lo ≤ c.toNat ∧ c.toNat ≤ hi
    · rw [if_pos g] at h'
      exact ⟨c, b', rfl, g.1, g.2, h'⟩
    · rw [if_neg g] at h'
      cases h'
theorem follow_end {lo hi x p : Nat} {b : Bytes} {y : Nat} {rest : Bytes} (h : follow 0 lo hi x p b = .ok (y, rest)) : y = x ∧ rest = b := by
  have h' : (Except.ok (x, b) : Except Nat (Nat × Bytes)) = .ok (y, rest) := h
  injection h' with h'
  injection h' with h1 h2
  exact ⟨h1.symm, h2.symm⟩
theorem leads_cases {c k lo hi : Nat} (h : leads c = some (k, lo, hi)) : (k = 0 ∧ c < 128) ∨ (k = 1 ∧ 194 ≤ c ∧ c < 224 ∧ lo = 128 ∧ hi = 191) ∨ (k = 2 ∧ 224 ≤ c ∧ c < 240 ∧ 128 ≤ lo ∧ hi ≤ 191 ∧ (c = 224 → 160 ≤ lo)) ∨ (k = 3 ∧ 240 ≤ c ∧ c < 245 ∧ 128 ≤ lo ∧ hi ≤ 191 ∧ (c = 240 → 144 ≤ lo)) := by
  unfold leads at h
  repeat (split at h; first | (injection h with h; injection h with h1 h2; injection h2 with h2 h3; subst h1 h2 h3; omega) | cases h)
  cases h
theorem sign_back {p : Nat} {c : UInt8} {r : Bytes} {y : Nat} {rest : Bytes} (h : scalarAt p (c :: r) = .ok (y, rest)) : utf8One y ++ rest = c :: r := by
  rw [scalarAt_cons] at h
  have hc := c.toNat_lt
  cases e : leads c.toNat with
  | none => rw [e] at h; cases h
  | some t =>
    obtain ⟨k, lo, hi⟩ := t
    rw [e] at h
    have h' : follow k lo hi (firstBits k c.toNat) (p + 1) r = .ok (y, rest) := h
    rcases leads_cases e with ⟨rfl, h1⟩ | ⟨rfl, h1, h2, rfl, rfl⟩ | ⟨rfl, h1, h2, h3, h4, h5⟩ | ⟨rfl, h1, h2, h3, h4, h5⟩
    · obtain ⟨rfl, rfl⟩ := follow_end h'
      have ey : firstBits 0 c.toNat = c.toNat := rfl
      rw [ey]
      unfold utf8One
      rw [if_pos (by omega), ofNat_toNat rfl]
      rfl
    · obtain ⟨c1, b1, rfl, g1, g2, h'⟩ := follow_step h'
      obtain ⟨rfl, rfl⟩ := follow_end h'
      have ey : firstBits 1 c.toNat = c.toNat % 32 := rfl
      rw [ey]
      unfold utf8One
      rw [if_neg (by omega), if_pos (by omega), ofNat_toNat (c := c) (by omega), ofNat_toNat (c := c1) (by omega)]
      rfl
    · obtain ⟨c1, b1, rfl, g1, g2, h'⟩ := follow_step h'
      obtain ⟨c2, b2, rfl, g3, g4, h'⟩ := follow_step h'
      obtain ⟨rfl, rfl⟩ := follow_end h'
      have ey : firstBits 2 c.toNat = c.toNat % 16 := rfl
      rw [ey]
      unfold utf8One
      rw [if_neg (by omega), if_neg (by omega), if_pos (by omega), ofNat_toNat (c := c) (by omega), ofNat_toNat (c := c1) (by omega), ofNat_toNat (c := c2) (by omega)]
      rfl
    · obtain ⟨c1, b1, rfl, g1, g2, h'⟩ := follow_step h'
      obtain ⟨c2, b2, rfl, g3, g4, h'⟩ := follow_step h'
      obtain ⟨c3, b3, rfl, g5, g6, h'⟩ := follow_step h'
      obtain ⟨rfl, rfl⟩ := follow_end h'
      have ey : firstBits 3 c.toNat = c.toNat % 8 := rfl
      rw [ey]
      unfold utf8One
      rw [if_neg (by omega), if_neg (by omega), if_neg (by omega), ofNat_toNat (c := c) (by omega), ofNat_toNat (c := c1) (by omega), ofNat_toNat (c := c2) (by omega), ofNat_toNat (c := c3) (by omega)]
      rfl
theorem text_back : ∀ (f p : Nat) (b : Bytes) (t : List Nat), scalarsFrom f p b = .ok t → utf8 t = b
  | 0, p, [], t, h => by
    have : ([] : List Nat) = t := by
      have h' : (Except.ok [] : Except Nat (List Nat)) = .ok t := h
      injection h'
    subst this
    rfl
  | f + 1, p, [], t, h => by
    have : ([] : List Nat) = t := by
      have h' : (Except.ok [] : Except Nat (List Nat)) = .ok t := h
      injection h'
    subst this
    rfl
  | 0, p, c :: r, t, h => by cases h
  | f + 1, p, c :: r, t, h => by
    unfold scalarsFrom at h
    cases e : scalarAt p (c :: r) with
    | error q => rw [e] at h; cases h
    | ok x =>
      obtain ⟨y, rest⟩ := x
      rw [e] at h
      have h' : (scalarsFrom f (p + ((c :: r).length - rest.length)) rest).map (fun (l : List Nat) => y :: l) = .ok t := h
      cases e2 : scalarsFrom f (p + ((c :: r).length - rest.length)) rest with
      | error q => rw [e2] at h'; cases h'
      | ok t' =>
        rw [e2] at h'
        have : y :: t' = t := by injection h'
        subst this
        have ih := text_back f _ rest t' e2
        have hs := sign_back e
        unfold utf8 at ih ⊢
        rw [List.flatMap_cons, ih]
        exact hs
theorem scalars_back {p : Nat} {b : Bytes} {t : List Nat} (h : scalars p b = .ok t) : utf8 t = b := text_back _ _ _ _ h
end Ag

set_option maxRecDepth 100000
set_option maxHeartbeats 2000000
namespace Ag
open Sw
/-! # Values read without their members, names; the machine with its path -/
/-- what the text's Value holds -/
inductive PT where
  | mk (tag place many : Nat) (codes : Bytes) (names : List Bytes) (kids : List PT)
/-- a number behind its kind's byte: how many bytes -/
def mNum (l : Bytes) : Option Nat := match mVary l with
  | none => none
  | some (z, u) => if z = 1 ∨ 4096 < z / 2 then none else if l.length - u < z / 2 then none else if 1 < z ∧ l[u + z / 2 - 1]? = some 0 then none else some (u + z / 2)
/-- bytes or a text behind the kind's byte -/
def mCodes (t : Bool) (l : Bytes) : Option (Bytes × Nat) := match mVary l with
  | none => none
  | some (n, u) => if l.length - u < n then none else if t = true ∧ okT ((l.drop u).take n) = false then none else some (if t = true then (l.drop u).take n else [], u + n)
def mSpan (n : Nat) (l : Bytes) : Option Nat := if l.length < n then none else some n
/-- a name behind the one before it -/
def mName (prev l : Bytes) : Option (Bytes × Nat) := match mVary l with
  | none => none
  | some (k, u) => if k < 1 ∨ 255 < k then none else if l.length - u < k then none else if okT ((l.drop u).take k) = false then none
    else if bytesBefore prev ((l.drop u).take k) = true then some ((l.drop u).take k, u + k) else none
/-- what stands behind a kind's byte: how many members, a text's bytes, how many bytes -/
def mRest (tag : Nat) (r : Bytes) : Option (Nat × Bytes × Nat) :=
  if tag = 2 then (mNum r).map fun u => (0, [], u)
  else if tag = 3 then (mCodes false r).map fun x => (0, x.1, x.2)
  else if tag = 4 then (mCodes true r).map fun x => (0, x.1, x.2)
  else if tag = 5 ∨ tag = 6 then (mVary r).map fun x => (x.1, [], x.2)
  else if tag = 7 then (mSpan 8 r).map fun u => (0, [], u)
  else if tag = 8 then (mSpan 32 r).map fun u => (0, [], u)
  else some (0, [], 0)
/-- a value without its members: its kind, how many members, a text's bytes, how many bytes -/
def mHead (deep : Nat) : Bytes → Option (Nat × Nat × Bytes × Nat)
  | [] => none
  | k :: r => if 8 < k.toNat ∨ 64 < deep then none else (mRest k.toNat r).map fun x => (k.toNat, x.1, x.2.1, x.2.2 + 1)
mutual
/-- the text's Value of the specification's -/
inductive VR : Value → PT → Prop
  | no (p : Nat) : VR .no (.mk 0 p 0 [] [] [])
  | yes (p : Nat) : VR .yes (.mk 1 p 0 [] [] [])
  | num (z : Int) (p : Nat) : VR (.num z) (.mk 2 p 0 [] [] [])
  | bytes (b : Bytes) (p : Nat) : VR (.bytes b) (.mk 3 p 0 [] [] [])
  | text (t : List Nat) (p : Nat) : VR (.text t) (.mk 4 p 0 (utf8 t) [] [])
  | list {m : Row} {p n : Nat} {ks : List PT} : RR false m [] ks → VR (.list m) (.mk 5 p n [] [] ks)
  | rec_ {m : Row} {p n : Nat} {c : Bytes} {ns : List Bytes} {ks : List PT} : RR true m ns ks → VR (.rec_ m) (.mk 6 p n c ns ks)
  | moment (z : Int) (p : Nat) : VR (.moment z) (.mk 7 p 0 [] [] [])
  | id (b : Bytes) (p : Nat) : VR (.id b) (.mk 8 p 0 [] [] [])
inductive RR : Bool → Row → List Bytes → List PT → Prop
  | nil (b : Bool) : RR b .nil [] []
  | cons {b : Bool} {n : Bytes} {v : Value} {r : Row} {t : PT} {ns : List Bytes} {ks : List PT} : VR v t → RR b r ns ks → RR b (.cons n v r) (if b = true then n :: ns else ns) (t :: ks)
end
theorem toO_ok {ε α : Type} {x : Except ε α} {a : α} (h : toO x = some a) : x = .ok a := by
  cases x with
  | ok b => injection h with h; rw [h]
  | error e => cases h
theorem toO_none {ε α : Type} {x : Except ε α} (h : toO x = none) : ∃ e, x = .error e := by
  cases x with
  | ok b => cases h
  | error e => exact ⟨e, rfl⟩
theorem vary_some {l : Bytes} {n u : Nat} (p : Nat) (h : mVary l = some (n, u)) : varyOf p l = .ok (n, u) := toO_ok ((mVary_eq p l).trans h)
theorem vary_none {l : Bytes} (p : Nat) (h : mVary l = none) : ∃ e, varyOf p l = .error e := toO_none ((mVary_eq p l).trans h)
theorem some_of {p n : Nat} {b : Bytes} (h : ¬ b.length < n) : someOf p n b = .ok (b.take n) := if_neg h
theorem some_not {p n : Nat} {b : Bytes} (h : b.length < n) : someOf p n b = .error ⟨1, p + b.length⟩ := if_pos h
theorem mNum_used {l : Bytes} {u : Nat} (h : mNum l = some u) : 1 ≤ u ∧ u ≤ l.length := by
  unfold mNum at h
  cases e : mVary l with
  | none => rw [e] at h; cases h
  | some x =>
    obtain ⟨z, v⟩ := x
    have := mVary_used e
    rw [e] at h
    simp only at h
    repeat (split at h; first | cases h | skip)
    injection h with h
    omega
theorem mCodes_used {t : Bool} {l : Bytes} {c : Bytes} {u : Nat} (h : mCodes t l = some (c, u)) : 1 ≤ u ∧ u ≤ l.length ∧ c.length ≤ u := by
  unfold mCodes at h
  cases e : mVary l with
  | none => rw [e] at h; cases h
  | some x =>
    obtain ⟨z, v⟩ := x
    have := mVary_used e
    rw [e] at h
    simp only at h
    by_cases h1 : l.length - v < z
    · rw [if_pos h1] at h; cases h
    · rw [if_neg h1] at h
      by_cases h2 : t = true ∧ okT ((l.drop v).take z) = false
      · rw [if_pos h2] at h; cases h
      · rw [if_neg h2] at h
        injection h with h
        injection h with h3 h4
        have : c.length ≤ z := by
          rw [← h3]
          split
          · rw [List.length_take]; omega
          · simp
        omega
theorem mName_used {prev l m : Bytes} {u : Nat} (h : mName prev l = some (m, u)) : 2 ≤ u ∧ u ≤ l.length ∧ m.length < u ∧ 1 ≤ m.length ∧ m.length ≤ 255 := by
  unfold mName at h
  cases e : mVary l with
  | none => rw [e] at h; cases h
  | some x =>
    obtain ⟨z, v⟩ := x
    have := mVary_used e
    rw [e] at h
    simp only at h
    by_cases h1 : z < 1 ∨ 255 < z
    · rw [if_pos h1] at h; cases h
    rw [if_neg h1] at h
    by_cases h2 : l.length - v < z
    · rw [if_pos h2] at h; cases h
    rw [if_neg h2] at h
    by_cases h3 : okT ((l.drop v).take z) = false
    · rw [if_pos h3] at h; cases h
    rw [if_neg h3] at h
    by_cases h4 : bytesBefore prev ((l.drop v).take z) = true
    · rw [if_pos h4] at h
      injection h with h
      injection h with h5 h6
      have : m.length = z := by
        rw [← h5, List.length_take, List.length_drop]
        omega
      omega
    · rw [if_neg h4] at h; cases h
theorem mRest_used {tag : Nat} {r : Bytes} {many u : Nat} {c : Bytes} (h : mRest tag r = some (many, c, u)) : u ≤ r.length ∧ c.length ≤ u ∧ many ≤ 4294967295 ∧ (tag ≠ 5 → tag ≠ 6 → many = 0) ∧ (tag ≠ 4 → c = []) := by
  unfold mRest at h
  by_cases h2 : tag = 2
  · rw [if_pos h2] at h
    obtain ⟨x, hx, e⟩ := Option.map_eq_some_iff.mp h
    injection e with e1 e2
    injection e2 with e2 e3
    have := mNum_used hx
    subst e1 e2 e3
    refine ⟨by omega, by simp, by omega, fun _ _ => rfl, fun _ => rfl⟩
  rw [if_neg h2] at h
  by_cases h3 : tag = 3
  · rw [if_pos h3] at h
    obtain ⟨x, hx, e⟩ := Option.map_eq_some_iff.mp h
    injection e with e1 e2
    injection e2 with e2 e3
    obtain ⟨c', u'⟩ := x
    have := mCodes_used hx
    have hc : c' = [] := by
      unfold mCodes at hx
      cases e : mVary r with
      | none => rw [e] at hx; cases hx
      | some y =>
        rw [e] at hx
        simp only [Bool.false_eq_true, false_and, if_false] at hx
        split at hx
        · cases hx
        · injection hx with hx
          injection hx with hx _
          exact hx.symm
    simp only at e2 e3
    subst e1 e2 e3
    refine ⟨by omega, by omega, by omega, fun _ _ => rfl, fun _ => hc⟩
  rw [if_neg h3] at h
  by_cases h4 : tag = 4
  · rw [if_pos h4] at h
    obtain ⟨x, hx, e⟩ := Option.map_eq_some_iff.mp h
    injection e with e1 e2
    injection e2 with e2 e3
    obtain ⟨c', u'⟩ := x
    have := mCodes_used hx
    simp only at e2 e3
    subst e1 e2 e3
    refine ⟨by omega, by omega, by omega, fun _ _ => rfl, fun z => absurd h4 z⟩
  rw [if_neg h4] at h
  by_cases h5 : tag = 5 ∨ tag = 6
  · rw [if_pos h5] at h
    obtain ⟨x, hx, e⟩ := Option.map_eq_some_iff.mp h
    injection e with e1 e2
    injection e2 with e2 e3
    obtain ⟨n, u'⟩ := x
    have := mVary_used hx
    simp only at e1 e3
    subst e1 e2 e3
    refine ⟨by omega, by simp, by omega, fun a b => (h5.elim (fun z => absurd z a) fun z => absurd z b), fun _ => rfl⟩
  rw [if_neg h5] at h
  by_cases h7 : tag = 7
  · rw [if_pos h7] at h
    obtain ⟨x, hx, e⟩ := Option.map_eq_some_iff.mp h
    injection e with e1 e2
    injection e2 with e2 e3
    unfold mSpan at hx
    split at hx
    · cases hx
    injection hx with hx
    subst e1 e2 e3
    refine ⟨by omega, by simp, by omega, fun _ _ => rfl, fun _ => rfl⟩
  rw [if_neg h7] at h
  by_cases h8 : tag = 8
  · rw [if_pos h8] at h
    obtain ⟨x, hx, e⟩ := Option.map_eq_some_iff.mp h
    injection e with e1 e2
    injection e2 with e2 e3
    unfold mSpan at hx
    split at hx
    · cases hx
    injection hx with hx
    subst e1 e2 e3
    refine ⟨by omega, by simp, by omega, fun _ _ => rfl, fun _ => rfl⟩
  rw [if_neg h8] at h
  injection h with h
  injection h with e1 e2
  injection e2 with e2 e3
  subst e1 e2 e3
  refine ⟨by omega, by simp, by omega, fun _ _ => rfl, fun _ => rfl⟩
theorem mHead_cons (deep : Nat) (k : UInt8) (r : Bytes) : mHead deep (k :: r) = if 8 < k.toNat ∨ 64 < deep then none else (mRest k.toNat r).map fun x => (k.toNat, x.1, x.2.1, x.2.2 + 1) := rfl
theorem mHead_used {deep : Nat} {b : Bytes} {tag many u : Nat} {c : Bytes} (h : mHead deep b = some (tag, many, c, u)) : 1 ≤ u ∧ u ≤ b.length ∧ c.length ≤ u ∧ many ≤ 4294967295 ∧ tag ≤ 8 ∧ deep ≤ 64 ∧ (tag ≠ 5 → tag ≠ 6 → many = 0) ∧ (tag ≠ 4 → c = []) := by
  cases b with
  | nil => cases h
  | cons k r =>
    rw [mHead_cons] at h
    by_cases g : 8 < k.toNat ∨ 64 < deep
    · rw [if_pos g] at h; cases h
    · rw [if_neg g] at h
      obtain ⟨x, hx, e⟩ := Option.map_eq_some_iff.mp h
      obtain ⟨a1, a2, a3⟩ := x
      injection e with e1 e2
      injection e2 with e2 e3
      injection e3 with e3 e4
      simp only at e1 e2 e3 e4
      subst e1 e2 e3 e4
      have := mRest_used hx
      rw [List.length_cons]
      refine ⟨by omega, by omega, by omega, by omega, by omega, by omega, this.2.2.2.1, this.2.2.2.2⟩
/-! ## against the specification -/
/-- what the specification reads behind a kind's byte -/
def vBody (f deep p : Nat) (r : Bytes) : Nat → Except Fault (Value × Nat)
  | 0 => .ok (.no, 1)
  | 1 => .ok (.yes, 1)
  | 2 => do
    let (z, l) ← varyOf (p + 1) r
    if NUMBER < z / 2 then .error ⟨4, p⟩ else do
    let m ← someOf (p + 1 + l) (z / 2) (r.drop l)
    if m.getLast? = some 0 ∨ z = 1 then .error ⟨4, p⟩ else .ok (.num (if z % 2 = 1 then -(ofLe m : Int) else (ofLe m : Int)), 1 + l + z / 2)
  | 3 => do
    let (n, l) ← varyOf (p + 1) r
    let m ← someOf (p + 1 + l) n (r.drop l)
    .ok (.bytes m, 1 + l + n)
  | 4 => do
    let (n, l) ← varyOf (p + 1) r
    let m ← someOf (p + 1 + l) n (r.drop l)
    let t ← textOf (p + 1 + l) m
    .ok (.text t, 1 + l + n)
  | 5 => do
    let (n, l) ← varyOf (p + 1) r
    let (m, used) ← rowAt f deep false n none (p + 1 + l) (r.drop l)
    .ok (.list m, 1 + l + used)
  | 6 => do
    let (n, l) ← varyOf (p + 1) r
    let (m, used) ← rowAt f deep true n none (p + 1 + l) (r.drop l)
    .ok (.rec_ m, 1 + l + used)
  | 7 => do
    let m ← someOf (p + 1) 8 r
    .ok (.moment (signed64 (ofLe m)), 9)
  | _ => do
    let m ← someOf (p + 1) 32 r
    .ok (.id m, 33)
theorem valueAt_cons (f deep p : Nat) (k : UInt8) (r : Bytes) : valueAt (f + 1) deep p (k :: r) = if 8 < k.toNat then .error ⟨2, p⟩ else if DEEP < deep then .error ⟨7, p⟩ else vBody f deep p r k.toNat := by
  unfold valueAt
  rfl
theorem valueAt_nil (f deep p : Nat) : valueAt (f + 1) deep p [] = .error ⟨1, p⟩ := by
  unfold valueAt
  rfl
def bef (prev : Option Bytes) (m : Bytes) : Bool := match prev with
  | some q => bytesBefore q m
  | none => true
def nBody (named : Bool) (prev : Option Bytes) (p : Nat) (b : Bytes) : Except Fault (Bytes × Nat) := if named = true then do
    let (k, l) ← varyOf p b
    if k = 0 ∨ NAME < k then .error ⟨6, p⟩ else do
    let m ← someOf (p + l) k (b.drop l)
    let _ ← textOf (p + l) m
    if bef prev m = false then .error ⟨6, p⟩ else .ok (m, l + k)
  else .ok ([], 0)
theorem rowAt_succ (f deep : Nat) (named : Bool) (n : Nat) (prev : Option Bytes) (p : Nat) (b : Bytes) : rowAt (f + 1) deep named (n + 1) prev p b = (do
    let (name, l) ← nBody named prev p b
    let (v, used) ← valueAt f (deep + 1) (p + l) (b.drop l)
    let (r, rest) ← rowAt f deep named n (some name) (p + l + used) (b.drop (l + used))
    .ok (.cons name v r, l + used + rest)) := by
  conv => lhs; unfold rowAt
  rfl
theorem rowAt_zero (f deep : Nat) (named : Bool) (prev : Option Bytes) (p : Nat) (b : Bytes) : rowAt (f + 1) deep named 0 prev p b = .ok (.nil, 0) := by
  unfold rowAt
  rfl
end Ag

set_option maxRecDepth 100000
set_option maxHeartbeats 2000000
namespace Ag
open Sw
theorem text_some {b : Bytes} (q : Nat) (h : okT b = true) : ∃ t, textOf q b = .ok t ∧ utf8 t = b := by
  obtain ⟨t, ht⟩ := (okT_iff q b).mp h
  refine ⟨t, ?_, scalars_back ht⟩
  unfold textOf
  rw [ht]
theorem text_not {b : Bytes} (q : Nat) (h : okT b = false) : ∃ e, textOf q b = .error e := by
  unfold textOf
  cases e : scalars q b with
  | error z => exact ⟨_, rfl⟩
  | ok t =>
    have := (okT_iff q b).mpr ⟨t, e⟩
    rw [h] at this
    cases this
/-- the name ahead: none as yet, told as no bytes -/
def PrevOk (prev : Option Bytes) (q : Bytes) : Prop := (prev = none ∧ q = []) ∨ prev = some q
theorem prev_before {prev : Option Bytes} {q m : Bytes} (h : PrevOk prev q) (hm : 1 ≤ m.length) : bef prev m = bytesBefore q m := by
  rcases h with ⟨rfl, rfl⟩ | rfl
  · cases m with
    | nil => simp at hm
    | cons a r => rfl
  · rfl
theorem drop_len (l : Bytes) (u : Nat) : (l.drop u).length = l.length - u := List.length_drop
theorem name_spec {prev : Option Bytes} {q : Bytes} (h : PrevOk prev q) (p : Nat) (b : Bytes) : (∀ m u, mName q b = some (m, u) → nBody true prev p b = .ok (m, u)) ∧ (mName q b = none → ∃ e, nBody true prev p b = .error e) := by
  unfold mName nBody
  rw [if_pos rfl]
  cases e : mVary b with
  | none =>
    obtain ⟨z, hz⟩ := vary_none p e
    rw [hz]
    exact ⟨fun m u h => (by cases h), fun _ => ⟨z, rfl⟩⟩
  | some x =>
    obtain ⟨k, u⟩ := x
    rw [vary_some p e]
    show (∀ m u', (if k < 1 ∨ 255 < k then none else if b.length - u < k then none else if okT ((b.drop u).take k) = false then none else if bytesBefore q ((b.drop u).take k) = true then some ((b.drop u).take k, u + k) else none) = some (m, u') →
        (if k = 0 ∨ NAME < k then (.error ⟨6, p⟩ : Except Fault (Bytes × Nat)) else (someOf (p + u) k (b.drop u)) >>= fun m => (textOf (p + u) m) >>= fun _ => if bef prev m = false then .error ⟨6, p⟩ else .ok (m, u + k)) = .ok (m, u')) ∧
      ((if k < 1 ∨ 255 < k then none else if b.length - u < k then none else if okT ((b.drop u).take k) = false then none else if bytesBefore q ((b.drop u).take k) = true then some ((b.drop u).take k, u + k) else none) = none →
        ∃ e, (if k = 0 ∨ NAME < k then (.error ⟨6, p⟩ : Except Fault (Bytes × Nat)) else (someOf (p + u) k (b.drop u)) >>= fun m => (textOf (p + u) m) >>= fun _ => if bef prev m = false then .error ⟨6, p⟩ else .ok (m, u + k)) = .error e)
    by_cases h1 : k < 1 ∨ 255 < k
    · rw [if_pos h1, if_pos (show k = 0 ∨ NAME < k by unfold NAME; omega)]
      exact ⟨fun m u' h => (by cases h), fun _ => ⟨_, rfl⟩⟩
    rw [if_neg h1, if_neg (show ¬ (k = 0 ∨ NAME < k) by unfold NAME; omega)]
    by_cases h2 : b.length - u < k
    · rw [if_pos h2, some_not (by rw [drop_len]; exact h2)]
      exact ⟨fun m u' h => (by cases h), fun _ => ⟨_, rfl⟩⟩
    rw [if_neg h2, some_of (by rw [drop_len]; exact h2)]
    have hm : 1 ≤ ((b.drop u).take k).length := by rw [List.length_take, drop_len]; omega
    cases h3 : okT ((b.drop u).take k) with
    | false =>
      rw [if_pos rfl]
      obtain ⟨z, hz⟩ := text_not (p + u) h3
      refine ⟨fun m u' h => (by cases h), fun _ => ⟨z, ?_⟩⟩
      show (textOf (p + u) ((b.drop u).take k) >>= _) = _
      rw [hz]
      rfl
    | true =>
      rw [if_neg (by decide)]
      obtain ⟨t, ht, _⟩ := text_some (p + u) h3
      show (∀ m u', _ → (textOf (p + u) ((b.drop u).take k) >>= fun _ => _) = _) ∧ (_ → ∃ e, (textOf (p + u) ((b.drop u).take k) >>= fun _ => _) = _)
      rw [ht]
      show (∀ m u', _ → (if bef prev ((b.drop u).take k) = false then (.error ⟨6, p⟩ : Except Fault (Bytes × Nat)) else .ok ((b.drop u).take k, u + k)) = .ok (m, u')) ∧ (_ → ∃ e, (if bef prev ((b.drop u).take k) = false then (.error ⟨6, p⟩ : Except Fault (Bytes × Nat)) else .ok ((b.drop u).take k, u + k)) = .error e)
      rw [prev_before h hm]
      cases h4 : bytesBefore q ((b.drop u).take k) with
      | false =>
        rw [if_neg (by decide), if_pos rfl]
        exact ⟨fun m u' h => (by cases h), fun _ => ⟨_, rfl⟩⟩
      | true =>
        rw [if_pos rfl, if_neg (by decide)]
        refine ⟨fun m u' h => ?_, fun h => (by cases h)⟩
        injection h with h
        rw [h]
theorem last_take {l : Bytes} {u n : Nat} (h1 : 1 ≤ n) (h2 : u + n ≤ l.length) : ((l.drop u).take n).getLast? = l[u + n - 1]? := by
  rw [List.getLast?_eq_getElem?, List.length_take, drop_len]
  rw [List.getElem?_take, List.getElem?_drop]
  rw [if_pos (by omega)]
  congr 1
  omega
theorem body_atom (f deep p : Nat) (r : Bytes) (k : Nat) (hk : k ≤ 8) (h5 : k ≠ 5) (h6 : k ≠ 6) :
    (∀ many c u, mRest k r = some (many, c, u) → ∃ v, vBody f deep p r k = .ok (v, u + 1) ∧ VR v (.mk k p 0 c [] [])) ∧ (mRest k r = none → ∃ e, vBody f deep p r k = .error e) := by
  match k, hk, h5, h6 with
  | 0, _, _, _ =>
    refine ⟨fun many c u h => ?_, fun h => (by cases h)⟩
    injection h with h; injection h with _ h; injection h with h1 h2
    subst h1 h2
    exact ⟨.no, rfl, .no p⟩
  | 1, _, _, _ =>
    refine ⟨fun many c u h => ?_, fun h => (by cases h)⟩
    injection h with h; injection h with _ h; injection h with h1 h2
    subst h1 h2
    exact ⟨.yes, rfl, .yes p⟩
  | 2, _, _, _ =>
    show (∀ many c u, (mNum r).map (fun u => ((0 : Nat), ([] : Bytes), u)) = some (many, c, u) → _) ∧ ((mNum r).map (fun u => ((0 : Nat), ([] : Bytes), u)) = none → _)
    unfold mNum
    cases e : mVary r with
    | none =>
      obtain ⟨z, hz⟩ := vary_none (p + 1) e
      refine ⟨fun many c u h => (by cases h), fun _ => ⟨z, ?_⟩⟩
      show (varyOf (p + 1) r >>= _) = _
      rw [hz]; rfl
    | some x =>
      obtain ⟨z, u⟩ := x
      have hu := mVary_used e
      have hb : vBody f deep p r 2 = if NUMBER < z / 2 then .error ⟨4, p⟩ else (someOf (p + 1 + u) (z / 2) (r.drop u)) >>= fun m => if m.getLast? = some 0 ∨ z = 1 then .error ⟨4, p⟩ else .ok (.num (if z % 2 = 1 then -(ofLe m : Int) else (ofLe m : Int)), 1 + u + z / 2) := by
        show (varyOf (p + 1) r >>= _) = _
        rw [vary_some (p + 1) e]; rfl
      show (∀ many c u', (if z = 1 ∨ 4096 < z / 2 then none else if r.length - u < z / 2 then none else if 1 < z ∧ r[u + z / 2 - 1]? = some 0 then none else some (u + z / 2)).map (fun u => ((0 : Nat), ([] : Bytes), u)) = some (many, c, u') → _) ∧
        ((if z = 1 ∨ 4096 < z / 2 then none else if r.length - u < z / 2 then none else if 1 < z ∧ r[u + z / 2 - 1]? = some 0 then none else some (u + z / 2)).map (fun u => ((0 : Nat), ([] : Bytes), u)) = none → _)
      rw [hb]
      by_cases h1 : 4096 < z / 2
      · rw [if_pos (.inr h1), if_pos (show NUMBER < z / 2 from h1)]
        exact ⟨fun many c u' h => (by cases h), fun _ => ⟨_, rfl⟩⟩
      rw [if_neg (show ¬ NUMBER < z / 2 from h1)]
      by_cases h2 : r.length - u < z / 2
      · rw [some_not (by rw [drop_len]; exact h2)]
        refine ⟨fun many c u' h => ?_, fun _ => ⟨_, rfl⟩⟩
        by_cases h3 : z = 1 ∨ 4096 < z / 2
        · rw [if_pos h3] at h; cases h
        · rw [if_neg h3, if_pos h2] at h; cases h
      rw [some_of (by rw [drop_len]; exact h2)]
      show (∀ many c u', _ → ∃ v, (if ((r.drop u).take (z / 2)).getLast? = some 0 ∨ z = 1 then (.error ⟨4, p⟩ : Except Fault (Value × Nat)) else _) = _ ∧ _) ∧ (_ → ∃ e, (if ((r.drop u).take (z / 2)).getLast? = some 0 ∨ z = 1 then (.error ⟨4, p⟩ : Except Fault (Value × Nat)) else _) = _)
      by_cases h3 : z = 1
      · rw [if_pos (.inl h3), if_pos (.inr h3)]
        exact ⟨fun many c u' h => (by cases h), fun _ => ⟨_, rfl⟩⟩
      rw [if_neg (show ¬ (z = 1 ∨ 4096 < z / 2) by omega), if_neg h2]
      have hl : (1 < z ∧ r[u + z / 2 - 1]? = some 0) ↔ ((r.drop u).take (z / 2)).getLast? = some 0 ∨ z = 1 := by
        by_cases h4 : 1 < z
        · rw [last_take (by omega) (by omega)]
          exact ⟨fun x => .inl x.2, fun x => ⟨h4, x.elim id fun y => absurd y h3⟩⟩
        · have : z = 0 := by omega
          subst this
          exact ⟨fun x => absurd x.1 h4, fun x => x.elim (fun y => (by simp at y)) fun y => absurd y h3⟩
      by_cases h5 : 1 < z ∧ r[u + z / 2 - 1]? = some 0
      · rw [if_pos h5, if_pos (hl.mp h5)]
        exact ⟨fun many c u' h => (by cases h), fun _ => ⟨_, rfl⟩⟩
      · rw [if_neg h5, if_neg (fun x => h5 (hl.mpr x))]
        refine ⟨fun many c u' h => ?_, fun h => (by cases h)⟩
        injection h with h; injection h with _ h; injection h with h6 h7
        subst h6 h7
        exact ⟨_, by rw [show 1 + u + z / 2 = u + z / 2 + 1 by omega], .num _ p⟩
  | 3, _, _, _ =>
    show (∀ many c u, (mCodes false r).map (fun x => ((0 : Nat), x.1, x.2)) = some (many, c, u) → _) ∧ ((mCodes false r).map (fun x => ((0 : Nat), x.1, x.2)) = none → _)
    unfold mCodes
    cases e : mVary r with
    | none =>
      obtain ⟨z, hz⟩ := vary_none (p + 1) e
      refine ⟨fun many c u h => (by cases h), fun _ => ⟨z, ?_⟩⟩
      show (varyOf (p + 1) r >>= _) = _
      rw [hz]; rfl
    | some x =>
      obtain ⟨n, u⟩ := x
      have hb : vBody f deep p r 3 = (someOf (p + 1 + u) n (r.drop u)) >>= fun m => .ok (.bytes m, 1 + u + n) := by
        show (varyOf (p + 1) r >>= _) = _
        rw [vary_some (p + 1) e]; rfl
      show (∀ many c u', (if r.length - u < n then none else if false = true ∧ okT ((r.drop u).take n) = false then none else some (if false = true then (r.drop u).take n else [], u + n)).map (fun x => ((0 : Nat), x.1, x.2)) = some (many, c, u') → _) ∧ ((if r.length - u < n then none else if false = true ∧ okT ((r.drop u).take n) = false then none else some (if false = true then (r.drop u).take n else [], u + n)).map (fun x => ((0 : Nat), x.1, x.2)) = none → _)
      rw [hb]
      by_cases h2 : r.length - u < n
      · rw [some_not (by rw [drop_len]; exact h2), if_pos h2]
        exact ⟨fun many c u' h => (by cases h), fun _ => ⟨_, rfl⟩⟩
      rw [some_of (by rw [drop_len]; exact h2), if_neg h2, if_neg (fun x => Bool.false_ne_true x.1), if_neg Bool.false_ne_true]
      refine ⟨fun many c u' h => ?_, fun h => (by cases h)⟩
      injection h with h; injection h with _ h; injection h with h6 h7
      simp only at h6 h7
      subst h6 h7
      exact ⟨_, by rw [show u + n + 1 = 1 + u + n by omega]; rfl, .bytes _ p⟩
  | 4, _, _, _ =>
    show (∀ many c u, (mCodes true r).map (fun x => ((0 : Nat), x.1, x.2)) = some (many, c, u) → _) ∧ ((mCodes true r).map (fun x => ((0 : Nat), x.1, x.2)) = none → _)
    unfold mCodes
    cases e : mVary r with
    | none =>
      obtain ⟨z, hz⟩ := vary_none (p + 1) e
      refine ⟨fun many c u h => (by cases h), fun _ => ⟨z, ?_⟩⟩
      show (varyOf (p + 1) r >>= _) = _
      rw [hz]; rfl
    | some x =>
      obtain ⟨n, u⟩ := x
      have hb : vBody f deep p r 4 = (someOf (p + 1 + u) n (r.drop u)) >>= fun m => (textOf (p + 1 + u) m) >>= fun t => .ok (.text t, 1 + u + n) := by
        show (varyOf (p + 1) r >>= _) = _
        rw [vary_some (p + 1) e]; rfl
      show (∀ many c u', (if r.length - u < n then none else if true = true ∧ okT ((r.drop u).take n) = false then none else some (if true = true then (r.drop u).take n else [], u + n)).map (fun x => ((0 : Nat), x.1, x.2)) = some (many, c, u') → _) ∧ ((if r.length - u < n then none else if true = true ∧ okT ((r.drop u).take n) = false then none else some (if true = true then (r.drop u).take n else [], u + n)).map (fun x => ((0 : Nat), x.1, x.2)) = none → _)
      rw [hb]
      by_cases h2 : r.length - u < n
      · rw [some_not (by rw [drop_len]; exact h2), if_pos h2]
        exact ⟨fun many c u' h => (by cases h), fun _ => ⟨_, rfl⟩⟩
      rw [some_of (by rw [drop_len]; exact h2), if_neg h2, if_pos rfl]
      show (∀ many c u', _ → ∃ v, (textOf (p + 1 + u) ((r.drop u).take n) >>= fun t => _) = _ ∧ _) ∧ (_ → ∃ e, (textOf (p + 1 + u) ((r.drop u).take n) >>= fun t => _) = _)
      cases h3 : okT ((r.drop u).take n) with
      | false =>
        obtain ⟨z, hz⟩ := text_not (p + 1 + u) h3
        rw [hz, if_pos ⟨rfl, rfl⟩]
        exact ⟨fun many c u' h => (by cases h), fun _ => ⟨_, rfl⟩⟩
      | true =>
        obtain ⟨t, ht, hb⟩ := text_some (p + 1 + u) h3
        rw [ht, if_neg (fun x => Bool.false_ne_true x.2.symm)]
        refine ⟨fun many c u' h => ?_, fun h => (by cases h)⟩
        injection h with h; injection h with _ h; injection h with h6 h7
        simp only at h6 h7
        subst h6 h7
        refine ⟨.text t, by rw [show u + n + 1 = 1 + u + n by omega]; rfl, ?_⟩
        rw [← hb]
        exact .text t p
  | 7, _, _, _ =>
    show (∀ many c u, (mSpan 8 r).map (fun u => ((0 : Nat), ([] : Bytes), u)) = some (many, c, u) → _) ∧ ((mSpan 8 r).map (fun u => ((0 : Nat), ([] : Bytes), u)) = none → _)
    unfold mSpan
    have hb : vBody f deep p r 7 = (someOf (p + 1) 8 r) >>= fun m => .ok (.moment (signed64 (ofLe m)), 9) := rfl
    rw [hb]
    by_cases h2 : r.length < 8
    · rw [some_not h2, if_pos h2]
      exact ⟨fun many c u' h => (by cases h), fun _ => ⟨_, rfl⟩⟩
    · rw [some_of h2, if_neg h2]
      refine ⟨fun many c u' h => ?_, fun h => (by cases h)⟩
      injection h with h; injection h with _ h; injection h with h6 h7
      subst h6 h7
      exact ⟨_, rfl, .moment _ p⟩
  | 8, _, _, _ =>
    show (∀ many c u, (mSpan 32 r).map (fun u => ((0 : Nat), ([] : Bytes), u)) = some (many, c, u) → _) ∧ ((mSpan 32 r).map (fun u => ((0 : Nat), ([] : Bytes), u)) = none → _)
    unfold mSpan
    have hb : vBody f deep p r 8 = (someOf (p + 1) 32 r) >>= fun m => .ok (.id m, 33) := rfl
    rw [hb]
    by_cases h2 : r.length < 32
    · rw [some_not h2, if_pos h2]
      exact ⟨fun many c u' h => (by cases h), fun _ => ⟨_, rfl⟩⟩
    · rw [some_of h2, if_neg h2]
      refine ⟨fun many c u' h => ?_, fun h => (by cases h)⟩
      injection h with h; injection h with _ h; injection h with h6 h7
      subst h6 h7
      exact ⟨_, rfl, .id _ p⟩
theorem body_list (f deep p : Nat) (r : Bytes) : (∀ many c u, mRest 5 r = some (many, c, u) → vBody f deep p r 5 = (rowAt f deep false many none (p + (u + 1)) (r.drop u) >>= fun x => .ok (.list x.1, u + 1 + x.2))) ∧ (mRest 5 r = none → ∃ e, vBody f deep p r 5 = .error e) := by
  show (∀ many c u, (mVary r).map (fun x => (x.1, ([] : Bytes), x.2)) = some (many, c, u) → _) ∧ ((mVary r).map (fun x => (x.1, ([] : Bytes), x.2)) = none → _)
  cases e : mVary r with
  | none =>
    obtain ⟨z, hz⟩ := vary_none (p + 1) e
    refine ⟨fun many c u h => (by cases h), fun _ => ⟨z, ?_⟩⟩
    show (varyOf (p + 1) r >>= _) = _
    rw [hz]; rfl
  | some x =>
    obtain ⟨n, u⟩ := x
    refine ⟨fun many c u' h => ?_, fun h => (by cases h)⟩
    injection h with h; injection h with h5 h; injection h with h6 h7
    simp only at h5 h6 h7
    subst h5 h6 h7
    show (varyOf (p + 1) r >>= _) = _
    rw [vary_some (p + 1) e, show p + (u + 1) = p + 1 + u by omega, show u + 1 = 1 + u by omega]
    rfl
theorem body_rec (f deep p : Nat) (r : Bytes) : (∀ many c u, mRest 6 r = some (many, c, u) → vBody f deep p r 6 = (rowAt f deep true many none (p + (u + 1)) (r.drop u) >>= fun x => .ok (.rec_ x.1, u + 1 + x.2))) ∧ (mRest 6 r = none → ∃ e, vBody f deep p r 6 = .error e) := by
  show (∀ many c u, (mVary r).map (fun x => (x.1, ([] : Bytes), x.2)) = some (many, c, u) → _) ∧ ((mVary r).map (fun x => (x.1, ([] : Bytes), x.2)) = none → _)
  cases e : mVary r with
  | none =>
    obtain ⟨z, hz⟩ := vary_none (p + 1) e
    refine ⟨fun many c u h => (by cases h), fun _ => ⟨z, ?_⟩⟩
    show (varyOf (p + 1) r >>= _) = _
    rw [hz]; rfl
  | some x =>
    obtain ⟨n, u⟩ := x
    refine ⟨fun many c u' h => ?_, fun h => (by cases h)⟩
    injection h with h; injection h with h5 h; injection h with h6 h7
    simp only at h5 h6 h7
    subst h5 h6 h7
    show (varyOf (p + 1) r >>= _) = _
    rw [vary_some (p + 1) e, show p + (u + 1) = p + 1 + u by omega, show u + 1 = 1 + u by omega]
    rfl
end Ag

set_option maxRecDepth 100000
set_option maxHeartbeats 2000000
namespace Ag
open Sw
/-! # The machine with its path, against the specification -/
/-- a value that's still being read -/
structure Fm where
  tag : Nat
  place : Nat
  many : Nat
  codes : Bytes
  names : List Bytes
  kids : List PT
def Fm.close (F : Fm) : PT := .mk F.tag F.place F.many F.codes F.names F.kids
def Fm.add (F : Fm) (t : PT) : Fm := { F with kids := F.kids ++ [t] }
def Fm.named (F : Fm) (m : Bytes) : Fm := { F with codes := m, names := F.names ++ [m] }
inductive SR where
  | fail
  | done (t : PT) (p : Nat)
  | go (fs : List Fm) (p : Nat)
def nameStep (bs : Bytes) (F : Fm) (p : Nat) : Option (Fm × Nat) := if F.tag = 6 then (mName F.codes (bs.drop p)).map (fun x => (F.named x.1, x.2)) else some (F, 0)
/-- one turn of the loop -/
def step (bs : Bytes) : List Fm → Nat → SR
  | [], _ => .fail
  | F :: fs, p => if F.kids.length = F.many then (match fs with
      | [] => .done F.close p
      | G :: gs => .go (G.add F.close :: gs) p)
    else match nameStep bs F p with
      | none => .fail
      | some (F', u) => match mHead (fs.length + 2) (bs.drop (p + u)) with
        | none => .fail
        | some (tag, many, codes, u') => .go (⟨tag, p + u, many, codes, [], []⟩ :: F' :: fs) (p + u + u')
/-- so many turns lead to such an end (none: it's broken) -/
def Ends (bs : Bytes) : Nat → List Fm → Nat → Option (PT × Nat) → Prop
  | 0, _, _, _ => False
  | m + 1, fs, p, o => match step bs fs p with
    | .fail => o = none
    | .done t q => o = some (t, q)
    | .go fs' q => Ends bs m fs' q o
mutual
/-- no more than its bytes -/
def PT.cost : PT → Nat
  | .mk tag _ _ codes names kids => 1 + (if tag = 4 then codes.length else 0) + (names.map (·.length)).sum + names.length + costs kids
def costs : List PT → Nat
  | [] => 0
  | t :: r => t.cost + costs r
end
mutual
def PT.places : PT → List Nat
  | .mk _ place _ _ _ kids => place :: placesL kids
def placesL : List PT → List Nat
  | [] => []
  | t :: r => t.places ++ placesL r
end
mutual
def PT.deep : PT → Nat
  | .mk _ _ _ _ _ kids => deeps kids + 1
def deeps : List PT → Nat
  | [] => 0
  | t :: r => max t.deep (deeps r)
end
/-- the places rise, from p on, below q -/
def Rise (l : List Nat) (p q : Nat) : Prop := l.Pairwise (· < ·) ∧ ∀ x ∈ l, p ≤ x ∧ x < q
theorem Rise.nil (p q : Nat) : Rise [] p q := ⟨.nil, by simp⟩
theorem Rise.append {l m : List Nat} {p q r : Nat} (a : Rise l p q) (b : Rise m q r) (h1 : p ≤ q) (h2 : q ≤ r) : Rise (l ++ m) p r := by
  refine ⟨List.pairwise_append.mpr ⟨a.1, b.1, fun x hx y hy => ?_⟩, fun x hx => ?_⟩
  · have := a.2 x hx
    have := b.2 y hy
    omega
  · rcases List.mem_append.mp hx with hx | hx
    · have := a.2 x hx
      omega
    · have := b.2 x hx
      omega
theorem Rise.cons {l : List Nat} {p q : Nat} (a : Rise l (p + 1) q) (h : p < q) : Rise (p :: l) p q := by
  refine ⟨List.pairwise_cons.mpr ⟨fun y hy => ?_, a.1⟩, fun x hx => ?_⟩
  · have := a.2 y hy
    omega
  · rcases List.mem_cons.mp hx with rfl | hx
    · omega
    · have := a.2 x hx
      omega
theorem Rise.mono {l : List Nat} {p q p' q' : Nat} (a : Rise l p q) (h1 : p' ≤ p) (h2 : q ≤ q') : Rise l p' q' := ⟨a.1, fun x hx => by
  have := a.2 x hx
  omega⟩
def PT.tag : PT → Nat
  | .mk tag _ _ _ _ _ => tag
def PT.place : PT → Nat
  | .mk _ p _ _ _ _ => p
def PT.codes : PT → Bytes
  | .mk _ _ _ c _ _ => c
def PT.names : PT → List Bytes
  | .mk _ _ _ _ n _ => n
def PT.kids : PT → List PT
  | .mk _ _ _ _ _ k => k
/-- what's known of a value that's read: it's the specification's; where it lies; what it costs -/
structure Got (v : Value) (t : PT) (p used deep : Nat) : Prop where
  vr : VR v t
  rise : Rise t.places p (p + used)
  cost : t.cost ≤ used
  deep : t.deep + deep ≤ 65
structure GotR (named : Bool) (r : Row) (ns : List Bytes) (ks : List PT) (n p used deep : Nat) : Prop where
  rr : RR named r ns ks
  rise : Rise (placesL ks) p (p + used)
  cost : (ns.map (·.length)).sum + ns.length + costs ks ≤ used
  len : ks.length = n
  deep : deeps ks + deep ≤ 64
  nn : named = false → ns = []
structure Claim (bs : Bytes) (f : Nat) : Prop where
  vok : ∀ deep p v used, valueAt f deep p (bs.drop p) = .ok (v, used) → ∃ tag many codes u, mHead deep (bs.drop p) = some (tag, many, codes, u) ∧ used ≤ bs.length - p ∧ 1 ≤ used ∧
    ∃ t, Got v t p used deep ∧ ∃ cl : Fm, cl.close = t ∧ cl.kids.length = cl.many ∧ ∀ fs, deep = fs.length + 1 → ∀ m o, Ends bs m (cl :: fs) (p + used) o → ∃ m', Ends bs m' (⟨tag, p, many, codes, [], []⟩ :: fs) (p + u) o
  verr : ∀ deep p e, valueAt f deep p (bs.drop p) = .error e → 2 * (bs.length - p) + 2 ≤ f → mHead deep (bs.drop p) = none ∨ ∃ tag many codes u, mHead deep (bs.drop p) = some (tag, many, codes, u) ∧ ∀ fs, deep = fs.length + 1 → ∃ m', Ends bs m' (⟨tag, p, many, codes, [], []⟩ :: fs) (p + u) none
  rok : ∀ deep named n prev p row used, rowAt f deep named n prev p (bs.drop p) = .ok (row, used) → deep ≤ 64 → ∃ names ks, GotR named row names ks n p used deep ∧ used ≤ bs.length - p ∧
    ∀ (F : Fm) fs, deep = fs.length + 1 → F.many = F.kids.length + n → (F.tag = 6 ↔ named = true) → (named = true → PrevOk prev F.codes) →
    ∀ m o, Ends bs m ({ F with codes := names.getLastD F.codes, names := F.names ++ names, kids := F.kids ++ ks } :: fs) (p + used) o → ∃ m', Ends bs m' (F :: fs) p o
  rerr : ∀ deep named n prev p e, rowAt f deep named n prev p (bs.drop p) = .error e → 2 * (bs.length - p) + 3 ≤ f → ∀ (F : Fm) fs, deep = fs.length + 1 → F.many = F.kids.length + n → (F.tag = 6 ↔ named = true) → (named = true → PrevOk prev F.codes) → ∃ m', Ends bs m' (F :: fs) p none
theorem drop_drop' (bs : Bytes) (p u : Nat) : (bs.drop p).drop u = bs.drop (p + u) := by rw [List.drop_drop]
theorem costs_append : ∀ a b : List PT, costs (a ++ b) = costs a + costs b
  | [], b => by simp [costs]
  | t :: r, b => by simp only [List.cons_append, costs, costs_append r b]; omega
theorem claim_zero (bs : Bytes) : Claim bs 0 where
  vok := fun deep p v used h => by
    unfold valueAt at h
    cases h
  verr := fun _ _ _ _ h => by omega
  rok := fun deep named n prev p row used h => by
    unfold rowAt at h
    cases h
  rerr := fun _ _ _ _ _ _ _ h => by omega
/-- the turn that ends a value within another -/
theorem ends_pop {bs : Bytes} {cl G : Fm} {gs : List Fm} {q m : Nat} {o : Option (PT × Nat)} (hk : cl.kids.length = cl.many) (h : Ends bs m (G.add cl.close :: gs) q o) : Ends bs (m + 1) (cl :: G :: gs) q o := by
  have e : step bs (cl :: G :: gs) q = .go (G.add cl.close :: gs) q := by
    show (if cl.kids.length = cl.many then _ else _) = _
    rw [if_pos hk]
  show (match step bs (cl :: G :: gs) q with
    | .fail => o = none
    | .done t q => o = some (t, q)
    | .go fs' q => Ends bs m fs' q o)
  rw [e]
  exact h
theorem bind_ok {ε α β : Type} {x : Except ε α} {f : α → Except ε β} {y : β} (h : (x >>= f) = .ok y) : ∃ a, x = .ok a ∧ f a = .ok y := by
  cases x with
  | ok a => exact ⟨a, rfl, h⟩
  | error e => cases h
theorem bind_err {ε α β : Type} {x : Except ε α} {f : α → Except ε β} {e : ε} (h : (x >>= f) = .error e) : x = .error e ∨ ∃ a, x = .ok a ∧ f a = .error e := by
  cases x with
  | ok a => exact .inr ⟨a, rfl, h⟩
  | error e' =>
    have h' : (Except.error e' : Except ε β) = .error e := h
    injection h' with h'
    exact .inl (by rw [h'])
theorem nbody_inv {bs : Bytes} {F : Fm} {named : Bool} {prev : Option Bytes} {p : Nat} {nm : Bytes} {l : Nat} (ht : F.tag = 6 ↔ named = true) (hp : named = true → PrevOk prev F.codes) (h : nBody named prev p (bs.drop p) = .ok (nm, l)) :
    ∃ F', nameStep bs F p = some (F', l) ∧ l ≤ bs.length - p ∧ F'.tag = F.tag ∧ F'.many = F.many ∧ F'.kids = F.kids ∧ F'.place = F.place ∧ (named = true → F'.codes = nm ∧ F'.names = F.names ++ [nm] ∧ nm.length + 1 ≤ l) ∧ (named = false → F'.names = F.names ∧ l = 0) := by
  cases named with
  | true =>
    have t6 : F.tag = 6 := ht.mpr rfl
    have ns := name_spec (hp rfl) p (bs.drop p)
    cases e : mName F.codes (bs.drop p) with
    | none =>
      obtain ⟨z, hz⟩ := ns.2 e
      rw [hz] at h
      cases h
    | some x =>
      obtain ⟨m, u⟩ := x
      rw [ns.1 m u e] at h
      injection h with h
      injection h with h1 h2
      subst h1 h2
      have hu := mName_used e
      rw [drop_len] at hu
      refine ⟨F.named m, ?_, hu.2.1, rfl, rfl, rfl, rfl, fun _ => ⟨rfl, rfl, by omega⟩, fun z => (by cases z)⟩
      unfold nameStep
      rw [if_pos t6, e]
      rfl
  | false =>
    have t6 : ¬ F.tag = 6 := fun z => Bool.false_ne_true (ht.mp z)
    unfold nBody at h
    rw [if_neg Bool.false_ne_true] at h
    injection h with h
    injection h with h1 h2
    subst h1 h2
    refine ⟨F, ?_, by omega, rfl, rfl, rfl, rfl, fun z => (by cases z), fun _ => ⟨rfl, rfl⟩⟩
    unfold nameStep
    rw [if_neg t6]
theorem nbody_err {bs : Bytes} {F : Fm} {named : Bool} {prev : Option Bytes} {p : Nat} {e : Fault} (ht : F.tag = 6 ↔ named = true) (hp : named = true → PrevOk prev F.codes) (h : nBody named prev p (bs.drop p) = .error e) : nameStep bs F p = none := by
  cases named with
  | true =>
    have t6 : F.tag = 6 := ht.mpr rfl
    have ns := name_spec (hp rfl) p (bs.drop p)
    cases e2 : mName F.codes (bs.drop p) with
    | none =>
      unfold nameStep
      rw [if_pos t6, e2]
      rfl
    | some x =>
      obtain ⟨m, u⟩ := x
      rw [ns.1 m u e2] at h
      cases h
  | false =>
    unfold nBody at h
    rw [if_neg Bool.false_ne_true] at h
    cases h
/-- the turn that reads a member -/
theorem ends_push {bs : Bytes} {F F' : Fm} {fs : List Fm} {p u tag many u' m : Nat} {codes : Bytes} {o : Option (PT × Nat)} (hk : F.kids.length ≠ F.many) (hn : nameStep bs F p = some (F', u)) (hh : mHead (fs.length + 2) (bs.drop (p + u)) = some (tag, many, codes, u'))
    (h : Ends bs m (⟨tag, p + u, many, codes, [], []⟩ :: F' :: fs) (p + u + u') o) : Ends bs (m + 1) (F :: fs) p o := by
  have e : step bs (F :: fs) p = .go (⟨tag, p + u, many, codes, [], []⟩ :: F' :: fs) (p + u + u') := by
    show (if F.kids.length = F.many then _ else match nameStep bs F p with
      | none => SR.fail
      | some (F', u) => match mHead (fs.length + 2) (bs.drop (p + u)) with
        | none => .fail
        | some (tag, many, codes, u') => .go (⟨tag, p + u, many, codes, [], []⟩ :: F' :: fs) (p + u + u')) = _
    rw [if_neg hk, hn]
    show (match mHead (fs.length + 2) (bs.drop (p + u)) with
        | none => SR.fail
        | some (tag, many, codes, u') => .go (⟨tag, p + u, many, codes, [], []⟩ :: F' :: fs) (p + u + u')) = _
    rw [hh]
  show (match step bs (F :: fs) p with
    | .fail => o = none
    | .done t q => o = some (t, q)
    | .go fs' q => Ends bs m fs' q o)
  rw [e]
  exact h
theorem ends_noname {bs : Bytes} {F : Fm} {fs : List Fm} {p : Nat} (hk : F.kids.length ≠ F.many) (hn : nameStep bs F p = none) : Ends bs 1 (F :: fs) p none := by
  have e : step bs (F :: fs) p = .fail := by
    show (if F.kids.length = F.many then _ else match nameStep bs F p with
      | none => SR.fail
      | some (F', u) => match mHead (fs.length + 2) (bs.drop (p + u)) with
        | none => .fail
        | some (tag, many, codes, u') => .go (⟨tag, p + u, many, codes, [], []⟩ :: F' :: fs) (p + u + u')) = _
    rw [if_neg hk, hn]
  show (match step bs (F :: fs) p with
    | .fail => none = none
    | .done t q => none = some (t, q)
    | .go fs' q => Ends bs 0 fs' q none)
  rw [e]
theorem ends_nohead {bs : Bytes} {F F' : Fm} {fs : List Fm} {p u : Nat} (hk : F.kids.length ≠ F.many) (hn : nameStep bs F p = some (F', u)) (hh : mHead (fs.length + 2) (bs.drop (p + u)) = none) : Ends bs 1 (F :: fs) p none := by
  have e : step bs (F :: fs) p = .fail := by
    show (if F.kids.length = F.many then _ else match nameStep bs F p with
      | none => SR.fail
      | some (F', u) => match mHead (fs.length + 2) (bs.drop (p + u)) with
        | none => .fail
        | some (tag, many, codes, u') => .go (⟨tag, p + u, many, codes, [], []⟩ :: F' :: fs) (p + u + u')) = _
    rw [if_neg hk, hn]
    show (match mHead (fs.length + 2) (bs.drop (p + u)) with
        | none => SR.fail
        | some (tag, many, codes, u') => .go (⟨tag, p + u, many, codes, [], []⟩ :: F' :: fs) (p + u + u')) = _
    rw [hh]
  show (match step bs (F :: fs) p with
    | .fail => none = none
    | .done t q => none = some (t, q)
    | .go fs' q => Ends bs 0 fs' q none)
  rw [e]
theorem len_drop_le (bs : Bytes) (p : Nat) : (bs.drop p).length = bs.length - p := List.length_drop
theorem claim_rok {bs : Bytes} {f : Nat} (c : Claim bs f) : ∀ deep named n prev p row used, rowAt (f + 1) deep named n prev p (bs.drop p) = .ok (row, used) → deep ≤ 64 → ∃ names ks, GotR named row names ks n p used deep ∧ used ≤ bs.length - p ∧
    ∀ (F : Fm) fs, deep = fs.length + 1 → F.many = F.kids.length + n → (F.tag = 6 ↔ named = true) → (named = true → PrevOk prev F.codes) →
    ∀ m o, Ends bs m ({ F with codes := names.getLastD F.codes, names := F.names ++ names, kids := F.kids ++ ks } :: fs) (p + used) o → ∃ m', Ends bs m' (F :: fs) p o := by
  intro deep named n prev p row used h hdeep
  cases n with
  | zero =>
    rw [rowAt_zero] at h
    injection h with h
    injection h with h1 h2
    subst h1 h2
    refine ⟨[], [], ⟨.nil _, Rise.nil _ _, by simp [costs], rfl, by simp [deeps]; omega, fun _ => rfl⟩, by omega, fun F fs _ hm _ _ m o h => ⟨m, ?_⟩⟩
    rw [List.append_nil, List.append_nil] at h
    exact h
  | succ n =>
    rw [rowAt_succ] at h
    obtain ⟨⟨nm, l⟩, hn, h⟩ := bind_ok h
    obtain ⟨⟨v, used1⟩, hv, h⟩ := bind_ok h
    obtain ⟨⟨r, rest⟩, hr, h⟩ := bind_ok h
    injection h with h
    injection h with h1 h2
    subst h1 h2
    rw [drop_drop'] at hv hr
    rw [← Nat.add_assoc] at hr
    obtain ⟨tag, many, codes, u, hh, hu1, hu1', t, gt, cl, hcl, hck, hends⟩ := c.vok _ _ _ _ hv
    have hd64 : deep + 1 ≤ 64 := (mHead_used hh).2.2.2.2.2.1
    obtain ⟨names, ks, gr, hu2, hrest⟩ := c.rok _ _ _ _ _ _ _ hr hdeep
    -- what the name took
    have hl : l ≤ bs.length - p ∧ (named = true → nm.length + 1 ≤ l) ∧ (named = false → l = 0) := by
      cases named with
      | true =>
        cases e : mName (prev.getD []) (bs.drop p) with
        | none =>
          have po : PrevOk prev (prev.getD []) := by
            cases prev with
            | none => exact .inl ⟨rfl, rfl⟩
            | some q => exact .inr rfl
          obtain ⟨z, hz⟩ := (name_spec po p (bs.drop p)).2 e
          rw [hz] at hn
          cases hn
        | some x =>
          obtain ⟨m, u⟩ := x
          have po : PrevOk prev (prev.getD []) := by
            cases prev with
            | none => exact .inl ⟨rfl, rfl⟩
            | some q => exact .inr rfl
          rw [(name_spec po p (bs.drop p)).1 m u e] at hn
          injection hn with hn
          injection hn with h1 h2
          subst h1 h2
          have hu := mName_used e
          rw [drop_len] at hu
          exact ⟨hu.2.1, fun _ => by omega, fun z => (by cases z)⟩
      | false =>
        unfold nBody at hn
        rw [if_neg Bool.false_ne_true] at hn
        injection hn with hn
        injection hn with h1 h2
        subst h1 h2
        exact ⟨by omega, fun z => (by cases z), fun _ => rfl⟩
    refine ⟨if named = true then nm :: names else names, t :: ks, ⟨.cons gt.vr gr.rr, ?_, ?_, by rw [List.length_cons, gr.len], ?_, fun z => by rw [z, if_neg Bool.false_ne_true, gr.nn z]⟩, by omega, fun F fs hfs hm ht hp => ?_⟩
    · have a := gt.rise
      have b := gr.rise
      show Rise (t.places ++ placesL ks) p (p + (l + used1 + rest))
      refine Rise.append (q := p + l + used1) (a.mono (by omega) (by omega)) (b.mono (by omega) (by omega)) (by omega) (by omega)
    · have a := gt.cost
      have b := gr.cost
      show _ + _ + (t.cost + costs ks) ≤ _
      cases named with
      | true =>
        have := hl.2.1 rfl
        simp only [if_true, List.map_cons, List.sum_cons, List.length_cons]
        omega
      | false =>
        simp only [Bool.false_eq_true, if_false]
        omega
    · have a := gt.deep
      have b := gr.deep
      show max t.deep (deeps ks) + deep ≤ 64
      omega
    · obtain ⟨F', hns, _, e1, e2, e3, e4, e5, e6⟩ := nbody_inv ht hp hn
      have hk : F.kids.length ≠ F.many := by omega
      have hlen2 : deep + 1 = (F' :: fs).length + 1 := by rw [List.length_cons]; omega
      have hh' : mHead (fs.length + 2) (bs.drop (p + l)) = some (tag, many, codes, u) := by
        rw [show fs.length + 2 = deep + 1 by omega]; exact hh
      have hfin := hrest (F'.add t) fs hfs (by show F'.many = (F'.kids ++ [t]).length + n; rw [e2, e3, List.length_append, hm]; simp; omega) (by show F'.tag = 6 ↔ _; rw [e1]; exact ht) (fun z => by
        show PrevOk (some nm) F'.codes
        rw [(e5 z).1]
        exact .inr rfl)
      intro m o h
      have hcodes : names.getLastD F'.codes = (if named = true then nm :: names else names).getLastD F.codes := by
        cases named with
        | true => rw [(e5 rfl).1, if_pos rfl, List.getLastD_cons]
        | false =>
          rw [if_neg Bool.false_ne_true]
          have t6 : ¬ F.tag = 6 := fun q => Bool.false_ne_true (ht.mp q)
          unfold nameStep at hns
          rw [if_neg t6] at hns
          injection hns with hns
          injection hns with hns
          rw [hns]
      have hnames : F'.names ++ names = F.names ++ (if named = true then nm :: names else names) := by
        cases named with
        | true => rw [(e5 rfl).2.1, if_pos rfl, List.append_assoc]; rfl
        | false => rw [(e6 rfl).1, if_neg Bool.false_ne_true]
      have h' : Ends bs m ({ (F'.add t) with codes := names.getLastD F'.codes, names := (F'.add t).names ++ names, kids := (F'.add t).kids ++ ks } :: fs) (p + l + used1 + rest) o := by
        have e : ({ (F'.add t) with codes := names.getLastD F'.codes, names := (F'.add t).names ++ names, kids := (F'.add t).kids ++ ks } : Fm) = { F with codes := (if named = true then nm :: names else names).getLastD F.codes, names := F.names ++ (if named = true then nm :: names else names), kids := F.kids ++ t :: ks } := by
          show ({ tag := F'.tag, place := F'.place, many := F'.many, codes := names.getLastD F'.codes, names := F'.names ++ names, kids := (F'.kids ++ [t]) ++ ks } : Fm) = _
          rw [e1, e2, e3, e4, hnames, hcodes, List.append_assoc]
          rfl
        rw [e, show p + l + used1 + rest = p + (l + used1 + rest) by omega]
        exact h
      obtain ⟨m1, h1⟩ := hfin m o h'
      rw [← hcl] at h1
      obtain ⟨m2, h2⟩ := hends (F' :: fs) hlen2 (m1 + 1) o (ends_pop hck h1)
      exact ⟨m2 + 1, ends_push hk hns hh' h2⟩
theorem claim_rerr {bs : Bytes} {f : Nat} (c : Claim bs f) : ∀ deep named n prev p e, rowAt (f + 1) deep named n prev p (bs.drop p) = .error e → 2 * (bs.length - p) + 3 ≤ f + 1 → ∀ (F : Fm) fs, deep = fs.length + 1 → F.many = F.kids.length + n → (F.tag = 6 ↔ named = true) → (named = true → PrevOk prev F.codes) → ∃ m', Ends bs m' (F :: fs) p none := by
  intro deep named n prev p e h hf F fs hfs hm ht hp
  cases n with
  | zero =>
    rw [rowAt_zero] at h
    cases h
  | succ n =>
    have hk : F.kids.length ≠ F.many := by omega
    rw [rowAt_succ] at h
    rcases bind_err h with h | ⟨⟨nm, l⟩, hn, h⟩
    · exact ⟨1, ends_noname hk (nbody_err ht hp h)⟩
    obtain ⟨F', hns, hl, e1, e2, e3, e4, e5, e6⟩ := nbody_inv ht hp hn
    have hlen2 : deep + 1 = (F' :: fs).length + 1 := by rw [List.length_cons]; omega
    rcases bind_err h with h | ⟨⟨v, used1⟩, hv, h⟩
    · rw [drop_drop'] at h
      rcases c.verr _ _ _ h (by omega) with hh | ⟨tag, many, codes, u, hh, hends⟩
      · exact ⟨1, ends_nohead hk hns (by rw [show fs.length + 2 = deep + 1 by omega]; exact hh)⟩
      · obtain ⟨m2, h2⟩ := hends (F' :: fs) hlen2
        exact ⟨m2 + 1, ends_push hk hns (by rw [show fs.length + 2 = deep + 1 by omega]; exact hh) h2⟩
    rcases bind_err h with h | ⟨⟨r, rest⟩, hr, h⟩
    · rw [drop_drop'] at hv h
      rw [← Nat.add_assoc] at h
      obtain ⟨tag, many, codes, u, hh, hu1, hu1', t, gt, cl, hcl, hck, hends⟩ := c.vok _ _ _ _ hv
      obtain ⟨m1, h1⟩ := c.rerr _ _ _ _ _ _ h (by omega) (F'.add t) fs hfs (by show F'.many = (F'.kids ++ [t]).length + n; rw [e2, e3, List.length_append, hm]; simp; omega) (by show F'.tag = 6 ↔ _; rw [e1]; exact ht) (fun z => by
        show PrevOk (some nm) F'.codes
        rw [(e5 z).1]
        exact .inr rfl)
      rw [← hcl] at h1
      obtain ⟨m2, h2⟩ := hends (F' :: fs) hlen2 (m1 + 1) none (ends_pop hck h1)
      exact ⟨m2 + 1, ends_push hk hns (by rw [show fs.length + 2 = deep + 1 by omega]; exact hh) h2⟩
    · cases h
theorem claim_vok {bs : Bytes} {f : Nat} (c : Claim bs f) : ∀ deep p v used, valueAt (f + 1) deep p (bs.drop p) = .ok (v, used) → ∃ tag many codes u, mHead deep (bs.drop p) = some (tag, many, codes, u) ∧ used ≤ bs.length - p ∧ 1 ≤ used ∧
    ∃ t, Got v t p used deep ∧ ∃ cl : Fm, cl.close = t ∧ cl.kids.length = cl.many ∧ ∀ fs, deep = fs.length + 1 → ∀ m o, Ends bs m (cl :: fs) (p + used) o → ∃ m', Ends bs m' (⟨tag, p, many, codes, [], []⟩ :: fs) (p + u) o := by
  intro deep p v used h
  cases hb : bs.drop p with
  | nil =>
    rw [hb, valueAt_nil] at h
    cases h
  | cons k r =>
    have hlen : (k :: r).length = bs.length - p := by rw [← hb, drop_len]
    have hr : r = bs.drop (p + 1) := by
      have : (bs.drop p).drop 1 = r := by rw [hb]; rfl
      rw [← this, drop_drop']
    rw [hb, valueAt_cons] at h
    by_cases g1 : 8 < k.toNat
    · rw [if_pos g1] at h; cases h
    rw [if_neg g1] at h
    by_cases g2 : DEEP < deep
    · rw [if_pos g2] at h; cases h
    rw [if_neg g2] at h
    have g : ¬ (8 < k.toNat ∨ 64 < deep) := by unfold DEEP at g2; omega
    have hd : deep ≤ 64 := by unfold DEEP at g2; omega
    have mh : ∀ x, mRest k.toNat r = some x → mHead deep (k :: r) = some (k.toNat, x.1, x.2.1, x.2.2 + 1) := fun x hx => by rw [mHead_cons, if_neg g, hx]; rfl
    by_cases h5 : k.toNat = 5
    · rw [h5] at h
      have bl := body_list f deep p r
      cases e : mRest 5 r with
      | none =>
        obtain ⟨z, hz⟩ := bl.2 e
        rw [hz] at h; cases h
      | some x =>
        obtain ⟨many, cc, u⟩ := x
        rw [bl.1 many cc u e, hr, drop_drop', show p + 1 + u = p + (u + 1) by omega] at h
        obtain ⟨⟨row, used1⟩, hrow, h⟩ := bind_ok h
        injection h with h
        injection h with h1 h2
        subst h1 h2
        obtain ⟨names, ks, gr, hu, hrest⟩ := c.rok _ _ _ _ _ _ _ hrow hd
        have hr1 := mRest_used e
        have hcc : cc = [] := hr1.2.2.2.2 (by decide)
        subst hcc
        have hnames : names = [] := gr.nn rfl
        subst hnames
        refine ⟨5, many, [], u + 1, by rw [← h5]; exact mh _ (by rw [h5]; exact e), ?_, by omega, .mk 5 p many [] [] ks, ⟨.list gr.rr, ?_, ?_, ?_⟩, ⟨5, p, many, [], [], ks⟩, rfl, gr.len, fun fs hfs m o he => ?_⟩
        · rw [List.length_cons] at hlen; omega
        · exact Rise.cons (gr.rise.mono (by omega) (by omega)) (by omega)
        · have := gr.cost
          show 1 + (if (5 : Nat) = 4 then _ else 0) + _ + _ + costs ks ≤ _
          rw [if_neg (by decide)]
          simp only [List.map_nil, List.sum_nil, List.length_nil] at this ⊢
          omega
        · have := gr.deep
          show deeps ks + 1 + deep ≤ 65
          omega
        · have hx := hrest ⟨5, p, many, [], [], []⟩ fs hfs (by show many = 0 + many; omega) ⟨fun z => absurd (show (5 : Nat) = 6 from z) (by decide), fun z => (by cases z)⟩ (fun z => (by cases z))
          refine hx m o ?_
          rw [show p + (u + 1) + used1 = p + (u + 1 + used1) by omega]
          exact he
    by_cases h6 : k.toNat = 6
    · rw [h6] at h
      have bl := body_rec f deep p r
      cases e : mRest 6 r with
      | none =>
        obtain ⟨z, hz⟩ := bl.2 e
        rw [hz] at h; cases h
      | some x =>
        obtain ⟨many, cc, u⟩ := x
        rw [bl.1 many cc u e, hr, drop_drop', show p + 1 + u = p + (u + 1) by omega] at h
        obtain ⟨⟨row, used1⟩, hrow, h⟩ := bind_ok h
        injection h with h
        injection h with h1 h2
        subst h1 h2
        obtain ⟨names, ks, gr, hu, hrest⟩ := c.rok _ _ _ _ _ _ _ hrow hd
        have hr1 := mRest_used e
        have hcc : cc = [] := hr1.2.2.2.2 (by decide)
        subst hcc
        refine ⟨6, many, [], u + 1, by rw [← h6]; exact mh _ (by rw [h6]; exact e), ?_, by omega, .mk 6 p many (names.getLastD []) names ks, ⟨.rec_ gr.rr, ?_, ?_, ?_⟩, ⟨6, p, many, names.getLastD [], names, ks⟩, rfl, gr.len, fun fs hfs m o he => ?_⟩
        · rw [List.length_cons] at hlen; omega
        · exact Rise.cons (gr.rise.mono (by omega) (by omega)) (by omega)
        · have := gr.cost
          show 1 + (if (6 : Nat) = 4 then _ else 0) + _ + _ + costs ks ≤ _
          rw [if_neg (by decide)]
          omega
        · have := gr.deep
          show deeps ks + 1 + deep ≤ 65
          omega
        · have hx := hrest ⟨6, p, many, [], [], []⟩ fs hfs (by show many = 0 + many; omega) ⟨fun _ => rfl, fun _ => rfl⟩ (fun _ => .inl ⟨rfl, rfl⟩)
          refine hx m o ?_
          rw [show p + (u + 1) + used1 = p + (u + 1 + used1) by omega]
          exact he
    · have ba := body_atom f deep p r k.toNat (by omega) h5 h6
      cases e : mRest k.toNat r with
      | none =>
        obtain ⟨z, hz⟩ := ba.2 e
        rw [hz] at h; cases h
      | some x =>
        obtain ⟨many, cc, u⟩ := x
        obtain ⟨v', hv', vr⟩ := ba.1 many cc u e
        rw [hv'] at h
        injection h with h
        injection h with h1 h2
        subst h1 h2
        have hr1 := mRest_used e
        have hm0 : many = 0 := hr1.2.2.2.1 h5 h6
        subst hm0
        rw [List.length_cons] at hlen
        refine ⟨k.toNat, 0, cc, u + 1, mh _ e, by omega, by omega, .mk k.toNat p 0 cc [] [], ⟨vr, ?_, ?_, ?_⟩, ⟨k.toNat, p, 0, cc, [], []⟩, rfl, rfl, fun fs hfs m o he => ⟨m, he⟩⟩
        · exact Rise.cons (Rise.nil _ _) (by omega)
        · show 1 + (if k.toNat = 4 then cc.length else 0) + 0 + 0 + 0 ≤ u + 1
          split <;> omega
        · show 0 + 1 + deep ≤ 65
          omega
theorem claim_verr {bs : Bytes} {f : Nat} (c : Claim bs f) : ∀ deep p e, valueAt (f + 1) deep p (bs.drop p) = .error e → 2 * (bs.length - p) + 2 ≤ f + 1 → mHead deep (bs.drop p) = none ∨ ∃ tag many codes u, mHead deep (bs.drop p) = some (tag, many, codes, u) ∧ ∀ fs, deep = fs.length + 1 → ∃ m', Ends bs m' (⟨tag, p, many, codes, [], []⟩ :: fs) (p + u) none := by
  intro deep p e h hf
  cases hb : bs.drop p with
  | nil => exact .inl rfl
  | cons k r =>
    have hlen : (k :: r).length = bs.length - p := by rw [← hb, drop_len]
    have hr : r = bs.drop (p + 1) := by
      have : (bs.drop p).drop 1 = r := by rw [hb]; rfl
      rw [← this, drop_drop']
    rw [List.length_cons] at hlen
    rw [hb, valueAt_cons] at h
    by_cases g1 : 8 < k.toNat
    · exact .inl (by rw [mHead_cons, if_pos (.inl g1)])
    rw [if_neg g1] at h
    by_cases g2 : DEEP < deep
    · exact .inl (by rw [mHead_cons, if_pos (.inr g2)])
    rw [if_neg g2] at h
    have g : ¬ (8 < k.toNat ∨ 64 < deep) := by unfold DEEP at g2; omega
    have mh : ∀ x, mRest k.toNat r = some x → mHead deep (k :: r) = some (k.toNat, x.1, x.2.1, x.2.2 + 1) := fun x hx => by rw [mHead_cons, if_neg g, hx]; rfl
    have mn : mRest k.toNat r = none → mHead deep (k :: r) = none := fun hx => by rw [mHead_cons, if_neg g, hx]; rfl
    cases e2 : mRest k.toNat r with
    | none => exact .inl (mn e2)
    | some x =>
    obtain ⟨many, cc, u⟩ := x
    have hr1 := mRest_used e2
    by_cases h5 : k.toNat = 5
    · rw [h5] at h e2
      have bl := body_list f deep p r
      rw [bl.1 many cc u e2, hr, drop_drop', show p + 1 + u = p + (u + 1) by omega] at h
      rcases bind_err h with h | ⟨⟨row, used1⟩, hrow, h⟩
      · have hcc : cc = [] := hr1.2.2.2.2 (by omega)
        subst hcc
        refine .inr ⟨5, many, [], u + 1, by rw [← h5]; exact mh _ (by rw [h5]; exact e2), fun fs hfs => ?_⟩
        exact c.rerr _ _ _ _ _ _ h (by omega) ⟨5, p, many, [], [], []⟩ fs hfs (by show many = 0 + many; omega) ⟨fun z => absurd (show (5 : Nat) = 6 from z) (by decide), fun z => (by cases z)⟩ (fun z => (by cases z))
      · cases h
    by_cases h6 : k.toNat = 6
    · rw [h6] at h e2
      have bl := body_rec f deep p r
      rw [bl.1 many cc u e2, hr, drop_drop', show p + 1 + u = p + (u + 1) by omega] at h
      rcases bind_err h with h | ⟨⟨row, used1⟩, hrow, h⟩
      · have hcc : cc = [] := hr1.2.2.2.2 (by omega)
        subst hcc
        refine .inr ⟨6, many, [], u + 1, by rw [← h6]; exact mh _ (by rw [h6]; exact e2), fun fs hfs => ?_⟩
        exact c.rerr _ _ _ _ _ _ h (by omega) ⟨6, p, many, [], [], []⟩ fs hfs (by show many = 0 + many; omega) ⟨fun _ => rfl, fun _ => rfl⟩ (fun _ => .inl ⟨rfl, rfl⟩)
      · cases h
    · have ba := body_atom f deep p r k.toNat (by omega) h5 h6
      obtain ⟨v', hv', vr⟩ := ba.1 many cc u e2
      rw [hv'] at h
      cases h
theorem claim_all (bs : Bytes) : ∀ f, Claim bs f
  | 0 => claim_zero bs
  | f + 1 => ⟨claim_vok (claim_all bs f), claim_verr (claim_all bs f), claim_rok (claim_all bs f), claim_rerr (claim_all bs f)⟩
/-- the whole: what decode does -/
inductive Decoded (bs : Bytes) : Option PT → Prop
  | nohead : mHead 1 bs = none → Decoded bs none
  | broken {tag many u m : Nat} {codes : Bytes} : mHead 1 bs = some (tag, many, codes, u) → Ends bs m [⟨tag, 0, many, codes, [], []⟩] u none → Decoded bs none
  | more {tag many u m : Nat} {codes : Bytes} {t : PT} {q : Nat} : mHead 1 bs = some (tag, many, codes, u) → Ends bs m [⟨tag, 0, many, codes, [], []⟩] u (some (t, q)) → q < bs.length → Decoded bs none
  | good {tag many u m : Nat} {codes : Bytes} {t : PT} {q : Nat} : mHead 1 bs = some (tag, many, codes, u) → Ends bs m [⟨tag, 0, many, codes, [], []⟩] u (some (t, q)) → ¬ q < bs.length → Decoded bs (some t)
theorem decode_spec (bs : Bytes) : (∃ v t, decode bs = .ok v ∧ Decoded bs (some t) ∧ VR v t ∧ t.cost ≤ bs.length ∧ t.deep ≤ 64 ∧ t.places.Pairwise (· < ·)) ∨ ((∃ e, decode bs = .error e) ∧ Decoded bs none) := by
  have c := claim_all bs (2 * bs.length + 4)
  have hd : bs.drop 0 = bs := rfl
  unfold decode
  cases e : valueAt (2 * bs.length + 4) 1 0 bs with
  | error z =>
    refine .inr ⟨⟨z, rfl⟩, ?_⟩
    rcases c.verr 1 0 z (by rw [hd]; exact e) (by omega) with h | ⟨tag, many, codes, u, h, hx⟩
    · exact .nohead h
    · obtain ⟨m', hm⟩ := hx [] rfl
      rw [Nat.zero_add] at hm
      exact .broken h hm
  | ok x =>
    obtain ⟨v, used⟩ := x
    obtain ⟨tag, many, codes, u, h, h1, h2, t, gt, cl, hcl, hck, hx⟩ := c.vok 1 0 v used (by rw [hd]; exact e)
    have hdone : Ends bs 1 [cl] (0 + used) (some (t, used)) := by
      have e : step bs [cl] (0 + used) = .done cl.close (0 + used) := by
        show (if cl.kids.length = cl.many then _ else _) = _
        rw [if_pos hck]
      show (match step bs [cl] (0 + used) with
        | .fail => some (t, used) = none
        | .done t' q => some (t, used) = some (t', q)
        | .go fs' q => Ends bs 0 fs' q (some (t, used)))
      rw [e, hcl, Nat.zero_add]
    obtain ⟨m', hm⟩ := hx [] rfl 1 _ hdone
    rw [Nat.zero_add] at hm
    have hg : used < bs.length ∨ ¬ used < bs.length := Nat.lt_or_ge used bs.length |>.imp id Nat.not_lt.mpr
    rcases hg with hg | hg
    · refine .inr ⟨?_, .more h hm hg⟩
      refine ⟨⟨8, used⟩, ?_⟩
      show (if used < bs.length then _ else _) = _
      rw [if_pos hg]
    · refine .inl ⟨v, t, ?_, .good h hm hg, gt.vr, ?_, ?_, gt.rise.1⟩
      · show (if used < bs.length then _ else _) = _
        rw [if_neg hg]
      · have := gt.cost; omega
      · have := gt.deep; omega
end Ag

set_option maxRecDepth 100000
set_option maxHeartbeats 2000000
namespace Ag
open PySem PySem.Spec PyProof.Rows L2
section
variable {P : Program} {w : World} {K : PySem.W.Frag} {mg : Str → Option Value} {base : Heap} {CB fB CV CC CK aKW aPK : Addr}
/-! ## the __init__ of Cursor and of Value -/
def spCInit (CC : Addr) : Sp := fun vs H Q _ => ∃ (x dx da : Addr), vs = [.ref x, .ref da] ∧ H x = some (.ins CC dx []) ∧ ∀ H' : Hp, CurAt CC H' x da 0 → Kp [x] H H' → Q .non H'
theorem scCInit : FnScope ["self", "data"] ["self", "data"] (defScope sCursorInit) := ⟨rfl, rfl, rfl, by decide +kernel, rfl, by decide +kernel, by decide +kernel⟩
theorem ok_cInit {f : Addr} {fd : FuncData} (T : Txt K mg CB fB CV CC CK aKW aPK) (F : Fun K "__init__" "Cursor.__init__" sCursorInit f fd) : FnOk P w K mg base CX0 1 f fd ["self", "data"] (spCInit CC) := by
  refine F.ok scCInit (fun vs H Q E h => ?_) (fun cdv A outer s H vs Q E hr h => ⟨_,
    pss_cons (ps_fld (pv 0) (pv 1) rfl) (pss_one (ps_fld (pv 0) pe_int rfl)), ?_⟩)
  · obtain ⟨x, dx, da, rfl, _⟩ := h
    rfl
  · obtain ⟨x, dx, da, rfl, hx, k⟩ := h
    refine ⟨_, rfl, _, rfl, x, CC, dx, [], rfl, hx, T.clC, T.cData, (by show 0 < 1000; decide), ?_⟩
    refine ⟨_, rfl, x, CC, dx, _, rfl, upd_same, T.clC, T.cAt, (by show 1 < 1000; decide), ?_⟩
    refine k _ ⟨dx, upd_same⟩ fun b o e n => ?_
    have nb : b ≠ x := fun z => n (by rw [z]; exact List.mem_singleton.mpr rfl)
    rw [upd_ne nb, upd_ne nb]
    exact e
/-- a Value as its __init__ leaves it -/
structure FreshV (CV : Addr) (H H' : Hp) (x : Addr) (i : VI) (tag place : Nat) : Prop where
  obj : VObj CV H' x i
  tag : i.tag = tag
  place : i.place = place
  many : i.many = 0
  cl : H' i.cl = some (.lst [])
  nl : H' i.nl = some (.lst [])
  ml : H' i.ml = some (.lst [])
  ncl : H i.cl = none
  nnl : H i.nl = none
  nml : H i.ml = none
  nd : [i.cl, i.nl, i.ml].Nodup
def spVInit (CV : Addr) : Sp := fun vs H Q _ => ∃ (x dx : Addr) (tag place : Nat), vs = [.ref x, .int tag, .int place] ∧ H x = some (.ins CV dx []) ∧ ∀ (i : VI) (H' : Hp), FreshV CV H H' x i tag place → Kp [x] H H' → Q .non H'
theorem scVInit : FnScope ["self", "tag", "place"] ["self", "tag", "place"] (defScope sValueInit) := ⟨rfl, rfl, rfl, by decide +kernel, rfl, by decide +kernel, by decide +kernel⟩
theorem ok_vInit {f : Addr} {fd : FuncData} (T : Txt K mg CB fB CV CC CK aKW aPK) (F : Fun K "__init__" "Value.__init__" sValueInit f fd) : FnOk P w K mg base CX0 1 f fd ["self", "tag", "place"] (spVInit CV) := by
  refine F.ok scVInit (fun vs H Q E h => ?_) (fun cdv A outer s H vs Q E hr h => ⟨_,
    pss_cons (ps_fld (pv 0) (pv 1) rfl) (pss_cons (ps_fld (pv 0) (pv 2) rfl) (pss_cons (ps_fld (pv 0) pe_int rfl) (pss_cons (ps_fld (pv 0) pe_bl rfl)
    (pss_cons (ps_fld (pv 0) (pe_lst pa_nil) rfl) (pss_cons (ps_fld (pv 0) (pe_lst pa_nil) rfl) (pss_one (ps_fld (pv 0) (pe_lst pa_nil) rfl))))))), ?_⟩)
  · obtain ⟨x, dx, tag, place, rfl, _⟩ := h
    rfl
  · obtain ⟨x, dx, tag, place, rfl, hx, k⟩ := h
    refine ⟨_, rfl, _, rfl, x, CV, dx, [], rfl, hx, T.clV, T.vTag, (by show 0 < 1000; decide), ?_⟩
    refine ⟨_, rfl, _, rfl, x, CV, dx, _, rfl, upd_same, T.clV, T.vPlace, (by show 1 < 1000; decide), ?_⟩
    refine ⟨_, rfl, x, CV, dx, _, rfl, upd_same, T.clV, T.vMany, (by show 2 < 1000; decide), ?_⟩
    refine ⟨_, rfl, x, CV, dx, _, rfl, upd_same, T.clV, T.vLow, (by show 3 < 1000; decide), ?_⟩
    refine ⟨(by decide), fun c1 n1 => ?_⟩
    have x1 := ne_of_none upd_same n1
    refine ⟨_, rfl, x, CV, dx, _, rfl, (upd_ne x1).trans upd_same, T.clV, T.vCodes, (by show 4 < 1000; decide), ?_⟩
    refine ⟨(by decide), fun c2 n2 => ?_⟩
    have x2 := ne_of_none upd_same n2
    refine ⟨_, rfl, x, CV, dx, _, rfl, (upd_ne x2).trans upd_same, T.clV, T.vNames, (by show 5 < 1000; decide), ?_⟩
    refine ⟨(by decide), fun c3 n3 => ?_⟩
    have x3 := ne_of_none upd_same n3
    refine ⟨_, rfl, x, CV, dx, _, rfl, (upd_ne x3).trans upd_same, T.clV, T.vMembers, (by show 6 < 1000; decide), ?_⟩
    have hc1 : ∀ {H2 : Hp} {o : HO}, H2 c1 = some o → True := fun _ => trivial
    have f1 : H c1 = none := by
      rw [upd_ne (Ne.symm x1), upd_ne (Ne.symm x1), upd_ne (Ne.symm x1), upd_ne (Ne.symm x1)] at n1
      exact n1
    have c12 : c2 ≠ c1 := fun z => by
      rw [z, upd_ne (Ne.symm x1), upd_same] at n2
      cases n2
    have f2 : H c2 = none := by
      rw [upd_ne (Ne.symm x2), upd_ne c12, upd_ne (Ne.symm x2), upd_ne (Ne.symm x2), upd_ne (Ne.symm x2), upd_ne (Ne.symm x2)] at n2
      exact n2
    have c23 : c3 ≠ c2 := fun z => by
      rw [z, upd_ne (Ne.symm x2), upd_same] at n3
      cases n3
    have c13 : c3 ≠ c1 := fun z => by
      rw [z, upd_ne (Ne.symm x1), upd_ne (Ne.symm c12), upd_ne (Ne.symm x1), upd_same] at n3
      cases n3
    have f3 : H c3 = none := by
      rw [upd_ne (Ne.symm x3), upd_ne c23, upd_ne (Ne.symm x3), upd_ne c13, upd_ne (Ne.symm x3), upd_ne (Ne.symm x3), upd_ne (Ne.symm x3), upd_ne (Ne.symm x3)] at n3
      exact n3
    refine k ⟨tag, place, 0, false, c1, c2, c3⟩ _ ⟨⟨dx, upd_same⟩, rfl, rfl, rfl, ?_, ?_, ?_, f1, f2, f3, ?_⟩ fun b o e n => ?_
    · show upd _ x _ c1 = _
      rw [upd_ne (Ne.symm x1), upd_ne (Ne.symm c13), upd_ne (Ne.symm x1), upd_ne (Ne.symm c12), upd_ne (Ne.symm x1), upd_same]
    · show upd _ x _ c2 = _
      rw [upd_ne (Ne.symm x2), upd_ne (Ne.symm c23), upd_ne (Ne.symm x2), upd_same]
    · show upd _ x _ c3 = _
      rw [upd_ne (Ne.symm x3), upd_same]
    · simp [Ne.symm c12, Ne.symm c13, Ne.symm c23]
    · have nb : b ≠ x := fun z => n (by rw [z]; exact List.mem_singleton.mpr rfl)
      have b1 := ne_of_none e f1
      have b2 := ne_of_none e f2
      have b3 := ne_of_none e f3
      rw [upd_ne nb, upd_ne b3, upd_ne nb, upd_ne b2, upd_ne nb, upd_ne b1, upd_ne nb, upd_ne nb, upd_ne nb, upd_ne nb]
      exact e
end
end Ag

set_option maxRecDepth 100000
set_option maxHeartbeats 2000000
namespace Ag
open PySem PySem.Spec PyProof.Rows L2
section
variable {P : Program} {w : World} {K : PySem.W.Frag} {mg : Str → Option Value} {base : Heap} {CB fB CV CC CK aKW aPK : Addr}
/-- the reader of these bytes: the cursor c, its list da -/
structure Rdr (K : PySem.W.Frag) (CC : Addr) (H : Hp) (c da : Addr) (bs : Sw.Bytes) (p : Nat) : Prop where
  cur : CurAt CC H c da p
  data : SqL K H da (bV bs)
  len : bs.length ≤ 8192
  le : p ≤ bs.length
/-- what broke: all but these addresses as it was -/
def Brk (CB : Addr) (S : List Addr) (H : Hp) (E : XK) : Prop := ∀ d H', Kp S H H' → E (.ref CB) (some d) H'
theorem CurAt.isIns {H : Hp} {c da : Addr} {p : Nat} (h : CurAt CC H c da p) : ∀ b ∈ [c], ∃ C dx fs, H b = some (.ins C dx fs) := fun b hb => by
  rw [List.mem_singleton.mp hb]
  obtain ⟨dx, e⟩ := h
  exact ⟨_, _, _, e⟩
theorem get_bV {bs : Sw.Bytes} {i : Nat} {c : UInt8} (h : bs[i]? = some c) : (bV bs)[i]? = some (.int (c.toNat : Nat)) := by
  unfold bV
  rw [List.getElem?_map, h]
  rfl
/-! ## byte -/
def spByte (K : PySem.W.Frag) (CB CC : Addr) : Sp := fun vs H Q E => ∃ (c da : Addr) (bs : Sw.Bytes) (p : Nat), vs = [.ref c] ∧ Rdr K CC H c da bs p ∧
  (bs[p]? = none → Brk CB [c] H E) ∧ (∀ x, bs[p]? = some x → ∀ H', CurAt CC H' c da (p + 1) → Kp [c] H H' → Q (.int (x.toNat : Nat)) H')
theorem scByte : FnScope ["self"] ["self"] (defScope sByte) := ⟨rfl, rfl, rfl, by decide +kernel, rfl, by decide +kernel, by decide +kernel⟩
theorem ok_byte {f : Addr} {fd : FuncData} (T : Txt K mg CB fB CV CC CK aKW aPK) (F : Fun K "byte" "Cursor.byte" sByte f fd) : FnOk P w K mg base (L2.CX P w) 3 f fd ["self"] (spByte K CB CC) := by
  refine F.okX scByte (fun vs H Q E h => ?_) (fun cdv A outer s H vs Q E hr h => ⟨_,
    pss_cons (ps_if (pt_cmpR op_ge (pe_fld (pv 0) rfl) (pe_callB call_len (by rfl) T.len PySem.boot_len (pa_cons (pe_fld (pv 0) rfl) pa_nil)) (nomark _))
      (pss_one (ps_raiseBrk rfl T.brk hr (takes_of rfl rfl rfl rfl) (by exact (pa_cons (pe_callB call_len (by rfl) T.len PySem.boot_len (pa_cons (pe_fld (pv 0) rfl) pa_nil)) pa_nil)))) pss_nil)
    (pss_cons (ps_fldaug (pv 0) pe_int in_add)
    (pss_one (ps_ret (pe_ix ix_list (pe_fld (pv 0) rfl) (pe_op op_sub (pe_fld (pv 0) rfl) pe_int) (fun _ _ => rfl))))), ?_⟩)
  · obtain ⟨c, da, bs, p, rfl, _⟩ := h
    rfl
  · obtain ⟨c, da, bs, p, rfl, r, kn, ks⟩ := h
    obtain ⟨dx, hc⟩ := id r.cur
    refine ⟨_, rfl, c, CC, dx, _, _, rfl, hc, T.clC, T.cAt, cF_at da p, ?_⟩
    refine ⟨_, rfl, c, CC, dx, _, _, rfl, hc, T.clC, T.cData, cF_data da p, _, _, rfl, .inl ⟨_, r.data, rfl⟩, _, _, rfl, rfl, _, rfl, ?_⟩
    rw [bV_length]
    have le := r.le
    refine idc (fun g => ?_) (fun g => ?_)
    · have hn : bs[p]? = none := List.getElem?_eq_none (by omega)
      refine ⟨_, rfl, c, CC, dx, _, _, rfl, hc, T.clC, T.cData, cF_data da p, _, _, rfl, .inl ⟨_, r.data, rfl⟩, _, rfl, fun d hd => ?_⟩
      exact kn hn d _ (Kp.new hd)
    · have hlt : p < bs.length := by omega
      have hg : bs[p]? = some bs[p] := List.getElem?_eq_getElem hlt
      refine ⟨_, rfl, c, CC, dx, _, _, rfl, hc, T.clC, T.cAt, cF_at da p, _, _, rfl, rfl, dx, _, hc, cF_len da p, ?_⟩
      have e1 : putF "at" (.int ((p : Int) + 1)) (cF da p) = cF da (p + 1) := put_at da p (p + 1)
      rw [e1]
      have kp : Kp [c] H (upd H c (.ins CC dx (cF da (p + 1)))) := Kp.write (List.mem_singleton.mpr rfl)
      refine ⟨_, rfl, c, CC, dx, _, _, rfl, upd_same, T.clC, T.cData, cF_data da (p + 1), ?_⟩
      refine ⟨_, rfl, c, CC, dx, _, _, rfl, upd_same, T.clC, T.cAt, cF_at da (p + 1), _, _, rfl, rfl, ?_⟩
      refine ⟨da, _, _, _, rfl, rfl, kp.seqI r.data r.cur.isIns, at_of (j := p) (by omega) (get_bV hg), ?_⟩
      exact ks _ hg _ ⟨dx, upd_same⟩ kp
/-! ## span -/
def spSpan (K : PySem.W.Frag) (CB CC : Addr) : Sp := fun vs H Q E => ∃ (c da : Addr) (bs : Sw.Bytes) (p n : Nat), vs = [.ref c, .int n] ∧ Rdr K CC H c da bs p ∧
  (bs.length - p < n → Brk CB [c] H E) ∧ (¬ bs.length - p < n → ∀ H', CurAt CC H' c da (p + n) → Kp [c] H H' → Q (.int p) H')
theorem scSpan : FnScope ["self", "many", "first"] ["self", "many"] (defScope sSpan) := ⟨rfl, rfl, rfl, by decide +kernel, rfl, by decide +kernel, by decide +kernel⟩
theorem ok_span {f : Addr} {fd : FuncData} (T : Txt K mg CB fB CV CC CK aKW aPK) (F : Fun K "span" "Cursor.span" sSpan f fd) : FnOk P w K mg base (L2.CX P w) 3 f fd ["self", "many"] (spSpan K CB CC) := by
  refine F.okX scSpan (fun vs H Q E h => ?_) (fun cdv A outer s H vs Q E hr h => ⟨_,
    pss_cons (ps_set (i := 2) scSpan.nd rfl (Or.inl rfl) (pe_fld (pv 0) rfl))
    (pss_cons (ps_if (pt_cmpR op_gt (pv 1) (pe_op op_sub (pe_callB call_len (by rfl) T.len PySem.boot_len (pa_cons (pe_fld (pv 0) rfl) pa_nil)) (pv 2)) (nomark _))
      (pss_one (ps_raiseBrk rfl T.brk hr (takes_of rfl rfl rfl rfl) (by exact (pa_cons (pe_callB call_len (by rfl) T.len PySem.boot_len (pa_cons (pe_fld (pv 0) rfl) pa_nil)) pa_nil)))) pss_nil)
    (pss_cons (ps_fld (pv 0) (pe_op op_add (pv 2) (pv 1)) rfl)
    (pss_one (ps_ret (pv 2))))), ?_⟩)
  · obtain ⟨c, da, bs, p, n, rfl, _⟩ := h
    rfl
  · obtain ⟨c, da, bs, p, n, rfl, r, kn, ks⟩ := h
    obtain ⟨dx, hc⟩ := id r.cur
    have le := r.le
    refine ⟨_, rfl, c, CC, dx, _, _, rfl, hc, T.clC, T.cAt, cF_at da p, ?_⟩
    refine ⟨_, rfl, _, rfl, c, CC, dx, _, _, rfl, hc, T.clC, T.cData, cF_data da p, _, _, rfl, .inl ⟨_, r.data, rfl⟩, _, rfl, _, _, rfl, rfl, _, _, rfl, rfl, _, rfl, ?_⟩
    rw [bV_length]
    refine idc (fun g => ?_) (fun g => ?_)
    · refine ⟨_, rfl, c, CC, dx, _, _, rfl, hc, T.clC, T.cData, cF_data da p, _, _, rfl, .inl ⟨_, r.data, rfl⟩, _, rfl, fun d hd => ?_⟩
      exact kn (by omega) d _ (Kp.new hd)
    · refine ⟨_, rfl, _, rfl, _, _, rfl, rfl, _, rfl, c, CC, dx, _, rfl, hc, T.clC, T.cAt, cF_len da p, ?_⟩
      have e1 : putF "at" (.int ((p : Int) + (n : Int))) (cF da p) = cF da (p + n) := put_at da p (p + n)
      rw [e1]
      exact ⟨_, rfl, ks (by omega) _ ⟨dx, upd_same⟩ (Kp.write (List.mem_singleton.mpr rfl))⟩
/-! ## varying -/
def spVarying (K : PySem.W.Frag) (CB CC : Addr) : Sp := fun vs H Q E => ∃ (c da : Addr) (bs : Sw.Bytes) (p : Nat), vs = [.ref c] ∧ Rdr K CC H c da bs p ∧
  (mVary (bs.drop p) = none → Brk CB [c] H E) ∧ (∀ n u, mVary (bs.drop p) = some (n, u) → ∀ H', CurAt CC H' c da (p + u) → Kp [c] H H' → Q (.int n) H')
theorem scVarying : FnScope ["self", "first", "amount", "weight", "turn", "code"] ["self"] (defScope sVarying) := ⟨rfl, rfl, rfl, by decide +kernel, rfl, by decide +kernel, by decide +kernel⟩
theorem ok_varying {f fY : Addr} {fd fdY : FuncData} {psY : List Str} (T : Txt K mg CB fB CV CC CK aKW aPK) (F : Fun K "varying" "Cursor.varying" sVarying f fd) (GY : FnOk P w K mg base (L2.CX P w) 3 fY fdY psY (spByte K CB CC)) (mY : Meth K CC "byte" fY) (bY : Binds K fdY psY []) : FnOk P w K mg base (L2.CX P w) 4 f fd ["self"] (spVarying K CB CC) := by
  refine F.okX scVarying (fun vs H Q E h => ?_) (fun cdv A outer s H vs Q E hr h => ⟨_,
    pss_cons (ps_set (i := 1) scVarying.nd rfl (Or.inl rfl) (pe_fld (pv 0) rfl))
    (pss_cons (ps_set (i := 2) scVarying.nd rfl (Or.inl rfl) pe_int)
    (pss_cons (ps_set (i := 3) scVarying.nd rfl (Or.inl rfl) pe_int)
    (pss_cons (ps_for poE rfl (pi_range1 rfl T.range (pa_cons pe_int pa_nil)) (pg_name (i := 4) scVarying.nd rfl (Or.inl rfl))
      (pss_cons (ps_set (i := 5) scVarying.nd rfl (Or.inl rfl) (pe_meth0 (pv 0) T.clC mY GY hr bY .nil psE))
      (pss_cons (ps_aug (i := 2) scVarying.nd rfl (Or.inl rfl) (pe_op op_mul (pe_op op_mod (pv 5) pe_int) (pv 3)) ip_add)
      (pss_cons (ps_set (i := 3) scVarying.nd rfl (Or.inl rfl) (pe_op op_mul (pv 3) pe_int))
      (pss_one (ps_if (pt_cmpR op_lt (pv 5) pe_int (nomark _))
        (pss_cons (ps_if (PW.pt (pw_or (PW.pt (pw_and (pt_cmpR op_eq (pv 5) pe_int (nomark _)) (pw_and1 (pt_cmpR op_gt (pv 4) pe_int (nomark _))))) (pw_or1 (pt_cmpR op_gt (pv 2) (pe_gi T.great) (nomark _)))))
          (pss_one (ps_raiseBrk rfl T.brk hr (takes_of rfl rfl rfl rfl) (by exact (pa_cons (pv 1) pa_nil)))) pss_nil)
        (pss_one (ps_ret (pv 2)))) pss_nil))))))
    (pss_one (ps_raiseBrk rfl T.brk hr (takes_of rfl rfl rfl rfl) (by exact (pa_cons (pv 1) pa_nil))))))), ?_⟩)
  · obtain ⟨c, da, bs, p, rfl, _⟩ := h
    rfl
  · obtain ⟨c, da, bs, p, rfl, r, kn, ks⟩ := h
    obtain ⟨dx, hc⟩ := id r.cur
    have le := r.le
    refine ⟨_, rfl, c, CC, dx, _, _, rfl, hc, T.clC, T.cAt, cF_at da p, ?_⟩
    refine ⟨5, rfl, by decide, by decide, for_range (n := 5) (fun i σ H' => (∃ (a : Nat) (v4 v5 : Option V), σ = [some (.ref c), some (.int p), some (.int a), some (.int ((128 ^ i : Nat) : Int)), v4, v5] ∧ vGo (5 - i) a i (bs.drop (p + i)) = mVary (bs.drop p) ∧ a < 128 ^ i) ∧ p + i ≤ bs.length ∧ CurAt CC H' c da (p + i) ∧ Kp [c] H H')
      ⟨⟨0, none, none, rfl, rfl, by decide⟩, le, r.cur, Kp.refl _ _⟩ ?_ ?_⟩
    · rintro i σ H' hi ⟨⟨a, v4, v5, rfl, hv, ha⟩, hle, hcur, kp⟩
      obtain ⟨dx', hc'⟩ := id hcur
      have back : ∀ {H1 : Hp}, Kp [c] H H1 → mVary (bs.drop p) = none → Brk CB [c] H1 E := fun k1 hn d H2 k2 => kn hn d H2 (k1.trans k2)
      have dr : bs.drop (p + i) = match bs[p + i]? with
          | none => []
          | some x => x :: bs.drop (p + i + 1) := by
        cases e : bs[p + i]? with
        | none => exact List.drop_eq_nil_of_le (List.getElem?_eq_none_iff.mp e)
        | some x =>
          obtain ⟨h1, h2⟩ := List.getElem?_eq_some_iff.mp e
          rw [List.drop_eq_getElem_cons h1, h2]
      refine ⟨_, rfl, c, dx', _, rfl, hc', by rfl, ⟨c, da, bs, p + i, rfl, ⟨hcur, kp.seqI r.data r.cur.isIns, r.len, hle⟩, fun hn => ?_, fun x hx H2 hcur2 kp2 => ?_⟩⟩
      · refine back kp ?_
        rw [← hv, dr, hn, show 5 - i = (4 - i) + 1 by omega]
        rfl
      · have kp3 := kp.trans kp2
        rw [dr, hx, show 5 - i = (4 - i) + 1 by omega] at hv
        have hv' : (if x.toNat < 128 then (if (x.toNat = 0 ∧ 0 < i) ∨ 4294967295 < a + x.toNat % 128 * 128 ^ i then none else some (a + x.toNat % 128 * 128 ^ i, i + 1)) else vGo (4 - i) (a + x.toNat % 128 * 128 ^ i) (i + 1) (bs.drop (p + i + 1))) = mVary (bs.drop p) := hv
        have ea : ((a : Nat) : Int) + (((x.toNat : Nat) : Int) % 128) * ((128 ^ i : Nat) : Int) = ((a + x.toNat % 128 * 128 ^ i : Nat) : Int) := by
          rw [Int.natCast_add, Int.natCast_mul, Int.natCast_emod]
          rfl
        have ew : ((128 ^ i : Nat) : Int) * 128 = ((128 ^ (i + 1) : Nat) : Int) := by
          rw [Nat.pow_succ, Int.natCast_mul]
          rfl
        refine ⟨_, rfl, _, rfl, _, _, rfl, rfl, (by show (0 : Int) < 128; decide), _, rfl, _, _, rfl, rfl, .inl ⟨by omega, by omega⟩, _, _, rfl, rfl, ?_⟩
        refine ⟨_, rfl, _, _, rfl, rfl, .inr ⟨by decide, by decide⟩, ?_⟩
        refine ⟨_, rfl, _, _, rfl, rfl, _, rfl, ?_⟩
        refine idc (fun g => ?_) (fun g => ?_)
        · rw [if_pos (by omega)] at hv'
          have no : (x.toNat = 0 ∧ 0 < i) ∨ 4294967295 < a + x.toNat % 128 * 128 ^ i → mVary (bs.drop p) = none := fun z => by rw [if_pos z] at hv'; exact hv'.symm
          have yes : ¬ ((x.toNat = 0 ∧ 0 < i) ∨ 4294967295 < a + x.toNat % 128 * 128 ^ i) → Q (.int ((a + x.toNat % 128 * 128 ^ i : Nat) : Int)) H2 := fun z => by
            rw [if_neg z] at hv'
            exact ks _ _ hv'.symm H2 hcur2 kp3
          have raise : mVary (bs.drop p) = none → ∀ d, H2 d = none → E (.ref CB) (some d) (upd H2 d (.xd [(("place" : Str), V.int p)])) := fun hn d hd => kn hn d _ (kp3.new' hd)
          have tail : ¬ (x.toNat = 0 ∧ 0 < i) → ∃ v, [some (V.ref c), some (V.int p), some (V.int ((a + x.toNat % 128 * 128 ^ i : Nat) : Int)), some (V.int ((128 ^ (i + 1) : Nat) : Int)), some (V.int (0 + (i : Int))), some (V.int (x.toNat : Nat))][2]? = some (some v) ∧ ∃ i' j, v = .int i' ∧ V.int 4294967295 = .int j ∧ ∃ k, V.bl (decide (j < i')) = .bl k ∧
              (if k = true then (∃ v, [some (V.ref c), some (V.int p), some (V.int ((a + x.toNat % 128 * 128 ^ i : Nat) : Int)), some (V.int ((128 ^ (i + 1) : Nat) : Int)), some (V.int (0 + (i : Int))), some (V.int (x.toNat : Nat))][1]? = some (some v) ∧ ∃ v', [v] = [v'] ∧ ∀ d, H2 d = none → E (.ref CB) (some d) (upd H2 d (.xd [(("place" : Str), v')])))
               else ∃ v, [some (V.ref c), some (V.int p), some (V.int ((a + x.toNat % 128 * 128 ^ i : Nat) : Int)), some (V.int ((128 ^ (i + 1) : Nat) : Int)), some (V.int (0 + (i : Int))), some (V.int (x.toNat : Nat))][2]? = some (some v) ∧ Q v H2) := fun n1 => by
            refine ⟨_, rfl, _, _, rfl, rfl, _, rfl, idc (fun g2 => ?_) (fun g2 => ?_)⟩
            · exact ⟨_, rfl, _, rfl, raise (no (.inr (by omega)))⟩
            · exact ⟨_, rfl, yes (by rintro (z | z); exact n1 z; omega)⟩
          refine ⟨_, rfl, rfl, _, rfl, ?_⟩
          refine idc (fun g1 => ?_) (fun g1 => ?_)
          · have g1' : x.toNat = 0 := by have := V.int.inj g1; omega
            refine ⟨_, rfl, _, _, rfl, rfl, _, rfl, ?_⟩
            refine idc (fun g2 => ?_) (fun g2 => ?_)
            · exact ⟨_, rfl, _, rfl, raise (no (.inl ⟨g1', by omega⟩))⟩
            · exact tail fun z => g2 (by omega)
          · exact tail fun z => g1 (by rw [z.1] <;> rfl)
        · rw [if_neg (by omega)] at hv'
          have hl : p + i < bs.length := (List.getElem?_eq_some_iff.mp hx).1
          refine ⟨⟨a + x.toNat % 128 * 128 ^ i, _, _, rfl, ?_, ?_⟩, by omega, hcur2, kp3⟩
          · rw [show 5 - (i + 1) = 4 - i by omega]
            exact hv'
          · rw [Nat.pow_succ]
            have : x.toNat % 128 < 128 := Nat.mod_lt _ (by decide)
            have h2 : x.toNat % 128 * 128 ^ i ≤ 127 * 128 ^ i := Nat.mul_le_mul_right _ (by omega)
            omega
    · rintro σ H' ⟨⟨a, v4, v5, rfl, hv, ha⟩, hle, hcur, kp⟩
      exact ⟨_, rfl, _, rfl, fun d hd => kn hv.symm d _ (kp.new' hd)⟩
end
end Ag

set_option maxRecDepth 100000
set_option maxHeartbeats 2000000
namespace Ag
open PySem PySem.Spec PyProof.Rows L2
theorem follow_le : ∀ {k lo hi : Nat} {l : Sw.Bytes}, mFollow k lo hi l = true → k ≤ l.length
  | 0, _, _, _, _ => Nat.zero_le _
  | k + 1, _, _, [], h => by cases h
  | k + 1, lo, hi, c :: r, h => by
    have h' : (decide (lo ≤ c.toNat ∧ c.toNat ≤ hi) && mFollow k 128 191 r) = true := h
    rw [Bool.and_eq_true] at h'
    have := follow_le h'.2
    rw [List.length_cons]
    omega
theorem sign_le {l : Sw.Bytes} {k : Nat} (h : mSign l = some k) : k ≤ l.length := by
  cases l with
  | nil => cases h
  | cons c r =>
    rw [mSign_cons] at h
    unfold signOf at h
    split at h
    · cases h
    · rename_i k' lo hi _
      cases g : mFollow k' lo hi r with
      | true =>
        simp only [g, if_true] at h
        injection h with h
        have := follow_le g
        rw [List.length_cons]
        omega
      | false => simp [g] at h
/-- what tail_of says -/
def tl3 (c : Nat) : Int × Int × Int := match Sw.leads c with
  | some (k, lo, hi) => (k, lo, hi)
  | none => (-1, 0, 0)
section
variable {P : Program} {w : World} {K : PySem.W.Frag} {mg : Str → Option Value} {base : Heap} {CB fB CV CC CK aKW aPK : Addr}
def spTail : Sp := fun vs H Q _ => ∃ c : Nat, vs = [.int c] ∧ ∀ p, H p = none → Q (.ref p) (upd H p (.tup [.int (tl3 c).1, .int (tl3 c).2.1, .int (tl3 c).2.2]))
theorem scTail : FnScope ["first"] ["first"] (defScope sTailOf) := ⟨rfl, rfl, rfl, by decide +kernel, rfl, by decide +kernel, by decide +kernel⟩
theorem tup3 {a b c : Int} {H : Hp} {Q : VK} (h : ∀ p, H p = none → Q (.ref p) (upd H p (.tup [.int a, .int b, .int c]))) : [V.int a, V.int b, V.int c].length ≤ sizeLine ∧ ∀ p, H p = none → Q (.ref p) (upd H p (.tup [.int a, .int b, .int c])) :=
  ⟨by show 3 ≤ sizeLine; rw [sz_eq]; decide, h⟩
theorem ok_tail {f : Addr} {fd : FuncData} (F : Fun K "tail_of" "tail_of" sTailOf f fd) : FnOk P w K mg base CX0 1 f fd ["first"] spTail := by
  refine F.ok scTail (fun vs H Q E h => ?_) (fun cdv A outer s H vs Q E hr h => ⟨_,
    pss_cons (ps_if (pt_cmpR op_lt (pv 0) pe_int (nomark _)) (pss_one (ps_ret (pe_tup (pa_cons pe_int (pa_cons pe_int (pa_cons pe_int pa_nil)))))) pss_nil)
    (pss_cons (ps_if (pt_chain op_le op_le pe_int (pv 0) pe_int) (pss_one (ps_ret (pe_tup (pa_cons pe_int (pa_cons pe_int (pa_cons pe_int pa_nil)))))) pss_nil)
    (pss_cons (ps_if (pt_cmpR op_eq (pv 0) pe_int (nomark _)) (pss_one (ps_ret (pe_tup (pa_cons pe_int (pa_cons pe_int (pa_cons pe_int pa_nil)))))) pss_nil)
    (pss_cons (ps_if (pt_cmpR op_eq (pv 0) pe_int (nomark _)) (pss_one (ps_ret (pe_tup (pa_cons pe_int (pa_cons pe_int (pa_cons pe_int pa_nil)))))) pss_nil)
    (pss_cons (ps_if (pt_chain op_le op_le pe_int (pv 0) pe_int) (pss_one (ps_ret (pe_tup (pa_cons pe_int (pa_cons pe_int (pa_cons pe_int pa_nil)))))) pss_nil)
    (pss_cons (ps_if (pt_cmpR op_eq (pv 0) pe_int (nomark _)) (pss_one (ps_ret (pe_tup (pa_cons pe_int (pa_cons pe_int (pa_cons pe_int pa_nil)))))) pss_nil)
    (pss_cons (ps_if (pt_chain op_le op_le pe_int (pv 0) pe_int) (pss_one (ps_ret (pe_tup (pa_cons pe_int (pa_cons pe_int (pa_cons pe_int pa_nil)))))) pss_nil)
    (pss_cons (ps_if (pt_cmpR op_eq (pv 0) pe_int (nomark _)) (pss_one (ps_ret (pe_tup (pa_cons pe_int (pa_cons pe_int (pa_cons pe_int pa_nil)))))) pss_nil)
    (pss_one (ps_ret (pe_tup (pa_cons (pe_un un_neg pe_int) (pa_cons pe_int (pa_cons pe_int pa_nil))))))))))))), ?_⟩)
  · obtain ⟨n, rfl, _⟩ := h
    rfl
  · obtain ⟨c, rfl, k⟩ := h
    have ch : ∀ (lo hi : Nat) (A B : Prop), (lo ≤ c ∧ c ≤ hi → A) → (¬ (lo ≤ c ∧ c ≤ hi) → B) →
        ∃ v, (start ["first"] [V.int (c : Nat)])[0]? = some (some v) ∧ ∃ i j, V.int (lo : Nat) = .int i ∧ v = .int j ∧ ∃ k, V.bl (decide (i ≤ j)) = .bl k ∧
          (if k = true then ∃ i j, v = .int i ∧ V.int (hi : Nat) = .int j ∧ ∃ k, V.bl (decide (i ≤ j)) = .bl k ∧ (if k = true then A else B)
           else ∃ k, V.bl false = .bl k ∧ (if k = true then A else B)) := by
      intro lo hi A B hA hB
      refine ⟨_, rfl, _, _, rfl, rfl, _, rfl, ?_⟩
      refine idc (fun c1 => ?_) (fun c1 => ?_)
      · refine ⟨_, _, rfl, rfl, _, rfl, ?_⟩
        exact idc (fun c2 => hA (by omega)) (fun c2 => hB (by omega))
      · exact ⟨_, rfl, iteF (hB (by omega))⟩
    have eqc : ∀ (n : Nat) (A B : Prop), (c = n → A) → (c ≠ n → B) → ∃ v, (start ["first"] [V.int (c : Nat)])[0]? = some (some v) ∧ scal v (V.int (n : Nat)) = true ∧ ∃ k, V.bl (decide (v = V.int (n : Nat))) = .bl k ∧ (if k = true then A else B) := by
      intro n A B hA hB
      refine ⟨_, rfl, rfl, _, rfl, ?_⟩
      refine idc (fun e => hA ?_) (fun e => hB fun z => e (by rw [z]))
      have := V.int.inj e
      omega
    refine ⟨_, rfl, _, _, rfl, rfl, _, rfl, ?_⟩
    refine idc (fun c1 => tup3 ?_) (fun c1 => ?_)
    · have : tl3 c = (0, 0, 0) := by unfold tl3 Sw.leads; rw [if_pos (by omega)]; rfl
      rw [this] at k; exact k
    refine ch 194 223 _ _ (fun g => tup3 ?_) fun n1 => ?_
    · have : tl3 c = (1, 128, 191) := by unfold tl3 Sw.leads; rw [if_neg (by omega), if_neg (by omega), if_pos (by omega)]; rfl
      rw [this] at k; exact k
    refine eqc 224 _ _ (fun g => tup3 ?_) fun n2 => ?_
    · have : tl3 c = (2, 160, 191) := by unfold tl3 Sw.leads; rw [if_neg (by omega), if_neg (by omega), if_neg (by omega), if_pos (by omega)]; rfl
      rw [this] at k; exact k
    refine eqc 237 _ _ (fun g => tup3 ?_) fun n3 => ?_
    · have : tl3 c = (2, 128, 159) := by unfold tl3 Sw.leads; rw [if_neg (by omega), if_neg (by omega), if_neg (by omega), if_neg (by omega), if_pos (by omega)]; rfl
      rw [this] at k; exact k
    refine ch 225 239 _ _ (fun g => tup3 ?_) fun n4 => ?_
    · have : tl3 c = (2, 128, 191) := by unfold tl3 Sw.leads; rw [if_neg (by omega), if_neg (by omega), if_neg (by omega), if_neg (by omega), if_neg (by omega), if_pos (by omega)]; rfl
      rw [this] at k; exact k
    refine eqc 240 _ _ (fun g => tup3 ?_) fun n5 => ?_
    · have : tl3 c = (3, 144, 191) := by unfold tl3 Sw.leads; rw [if_neg (by omega), if_neg (by omega), if_neg (by omega), if_neg (by omega), if_neg (by omega), if_neg (by omega), if_pos (by omega)]; rfl
      rw [this] at k; exact k
    refine ch 241 243 _ _ (fun g => tup3 ?_) fun n6 => ?_
    · have : tl3 c = (3, 128, 191) := by unfold tl3 Sw.leads; rw [if_neg (by omega), if_neg (by omega), if_neg (by omega), if_neg (by omega), if_neg (by omega), if_neg (by omega), if_neg (by omega), if_pos (by omega)]; rfl
      rw [this] at k; exact k
    refine eqc 244 _ _ (fun g => tup3 ?_) fun n7 => ?_
    · have : tl3 c = (3, 128, 143) := by unfold tl3 Sw.leads; rw [if_neg (by omega), if_neg (by omega), if_neg (by omega), if_neg (by omega), if_neg (by omega), if_neg (by omega), if_neg (by omega), if_neg (by omega), if_pos (by omega)]; rfl
      rw [this] at k; exact k
    have : tl3 c = (-1, 0, 0) := by
      unfold tl3 Sw.leads
      rw [if_neg (by omega)]
      by_cases g : c < 194
      · rw [if_pos (by omega)]
      · rw [if_neg (by omega), if_neg (by omega), if_neg (by omega), if_neg (by omega), if_neg (by omega), if_neg (by omega), if_neg (by omega), if_neg (by omega)]
    rw [this] at k
    exact ⟨_, rfl, tup3 k⟩
end
end Ag

set_option maxRecDepth 100000
set_option maxHeartbeats 2000000
namespace Ag
open PySem PySem.Spec PyProof.Rows L2
section
variable {P : Program} {w : World} {K : PySem.W.Frag} {mg : Str → Option Value} {base : Heap} {CB fB CV CC CK aKW aPK : Addr}
theorem slice_get {bs : Sw.Bytes} {a e i : Nat} (h : a + i < e) : ((bs.drop a).take (e - a))[i]? = bs[a + i]? := by
  rw [List.getElem?_take, if_pos (by omega), List.getElem?_drop]
theorem slice_cons {bs : Sw.Bytes} {a e : Nat} {x : UInt8} (h : a < e) (hx : bs[a]? = some x) : (bs.drop a).take (e - a) = x :: (bs.drop (a + 1)).take (e - (a + 1)) := by
  obtain ⟨h1, h2⟩ := List.getElem?_eq_some_iff.mp hx
  rw [List.drop_eq_getElem_cons h1, h2, show e - a = (e - (a + 1)) + 1 by omega, List.take_succ_cons]
def spPast (K : PySem.W.Frag) (CB : Addr) : Sp := fun vs H Q E => ∃ (da : Addr) (bs : Sw.Bytes) (a e : Nat), vs = [.ref da, .int a, .int e] ∧ SqL K H da (bV bs) ∧ a < e ∧ e ≤ bs.length ∧ bs.length ≤ 8192 ∧
  (mSign ((bs.drop a).take (e - a)) = none → Brk CB [] H E) ∧ (∀ k, mSign ((bs.drop a).take (e - a)) = some k → ∀ H', Same H H' → Q (.int ((a + k : Nat) : Int)) H')
theorem scPast : FnScope ["data", "at", "end", "many", "least", "greatest", "place"] ["data", "at", "end"] (defScope sPastSign) := ⟨rfl, rfl, rfl, by decide +kernel, rfl, by decide +kernel, by decide +kernel⟩
theorem ok_past {f fT : Addr} {fd fdT : FuncData} {psT : List Str} (T : Txt K mg CB fB CV CC CK aKW aPK) (F : Fun K "past_sign" "past_sign" sPastSign f fd) (GT : Gf P w K mg base CX0 1 "tail_of" fT fdT psT spTail) : FnOk P w K mg base (L2.CX P w) 3 f fd ["data", "at", "end"] (spPast K CB) := by
  refine F.okX scPast (fun vs H Q E h => ?_) (fun cdv A outer s H vs Q E hr h => ⟨_,
    pss_cons (ps_asg (pe_g GT (hr.mono (by decide)) pass0 (pa_cons (pe_ix ix_list (pv 0) (pv 1) (fun _ _ => rfl)) pa_nil)) (pg_tup rfl (pgs_cons (pg_name (i := 3) scPast.nd rfl (Or.inl rfl)) (pgs_cons (pg_name (i := 4) scPast.nd rfl (Or.inl rfl)) (pgs_cons (pg_name (i := 5) scPast.nd rfl (Or.inl rfl)) pgs_nil)))))
    (pss_cons (ps_if (pt_cmpR op_lt (pv 3) pe_int (nomark _)) (pss_one (ps_raiseBrk rfl T.brk hr (takes_of rfl rfl rfl rfl) (by exact (pa_cons (pv 1) pa_nil)))) pss_nil)
    (pss_cons (ps_for poE rfl (pi_range2 rfl T.range (pa_cons (pe_op op_add (pv 1) pe_int) (pa_cons (pe_op op_add (pe_op op_add (pv 1) (pv 3)) pe_int) pa_nil))) (pg_name (i := 6) scPast.nd rfl (Or.inl rfl))
      (pss_cons (ps_if (pt_cmpR op_ge (pv 6) (pv 2) (nomark _)) (pss_one (ps_raiseBrk rfl T.brk hr (takes_of rfl rfl rfl rfl) (by exact (pa_cons (pv 2) pa_nil)))) pss_nil)
      (pss_cons (ps_if (pt_cmpR op_gt (pv 6) (pe_op op_add (pv 1) pe_int) (nomark _)) (pss_one (ps_asg (pe_tup (pa_cons pe_int (pa_cons pe_int pa_nil))) (pg_tup rfl (pgs_cons (pg_name (i := 4) scPast.nd rfl (Or.inl rfl)) (pgs_cons (pg_name (i := 5) scPast.nd rfl (Or.inl rfl)) pgs_nil))))) pss_nil)
      (pss_one (ps_if (PW.pt (pw_or (pt_cmpR op_lt (pe_ix ix_list (pv 0) (pv 6) (fun _ _ => rfl)) (pv 4) (nomark _)) (pw_or1 (pt_cmpR op_gt (pe_ix ix_list (pv 0) (pv 6) (fun _ _ => rfl)) (pv 5) (nomark _)))))
        (pss_one (ps_raiseBrk rfl T.brk hr (takes_of rfl rfl rfl rfl) (by exact (pa_cons (pv 6) pa_nil)))) pss_nil)))))
    (pss_one (ps_ret (pe_op op_add (pe_op op_add (pv 1) (pv 3)) pe_int))))), ?_⟩)
  · obtain ⟨da, bs, a, e, rfl, _⟩ := h
    rfl
  · obtain ⟨da, bs, a, e, rfl, hq, hae, hel, hb, kn, ks⟩ := h
    have hx : bs[a]? = some bs[a] := List.getElem?_eq_getElem (by omega)
    generalize hxc : bs[a] = x at hx
    rw [slice_cons hae hx, mSign_cons] at kn ks
    refine ⟨_, rfl, _, rfl, da, _, _, _, rfl, rfl, hq, at_of (j := a) rfl (get_bV hx), x.toNat, rfl, fun t ht => ?_⟩
    have s1 : Same H (upd H t (.tup [.int (tl3 x.toNat).1, .int (tl3 x.toNat).2.1, .int (tl3 x.toNat).2.2])) := Same.new ht
    generalize hH1 : upd H t (.tup [.int (tl3 x.toNat).1, .int (tl3 x.toNat).2.1, .int (tl3 x.toNat).2.2]) = H1 at s1
    have ht1 : H1 t = some (.tup [.int (tl3 x.toNat).1, .int (tl3 x.toNat).2.1, .int (tl3 x.toNat).2.2]) := by rw [← hH1, upd_same]
    refine ⟨t, _, rfl, SqT.of ht1, rfl, _, _, rfl, _, _, rfl, _, _, rfl, rfl, ?_⟩
    have raise : ∀ {v : V}, signOf (Sw.leads x.toNat) ((bs.drop (a + 1)).take (e - (a + 1))) = none → ∀ {H2 : Hp}, Same H H2 → ∀ d, H2 d = none → E (.ref CB) (some d) (upd H2 d (.xd [(("place" : Str), v)])) := fun hn H2 s2 d hd => kn hn d _ (Kp.of (Same.new' s2 hd))
    cases hl : Sw.leads x.toNat with
    | none =>
      have e3 : tl3 x.toNat = (-1, 0, 0) := by unfold tl3; rw [hl]
      rw [e3]
      refine ⟨_, rfl, _, _, rfl, rfl, _, rfl, itt (by decide) ?_⟩
      exact ⟨_, rfl, _, rfl, raise (by rw [hl]; rfl) s1⟩
    | some q =>
      obtain ⟨k, lo, hi⟩ := q
      have e3 : tl3 x.toNat = ((k : Int), (lo : Int), (hi : Int)) := by unfold tl3; rw [hl]
      have hk3 := leads_le hl
      rw [e3]
      refine ⟨_, rfl, _, _, rfl, rfl, _, rfl, itf (decide_eq_false (by omega)) ?_⟩
      refine ⟨_, rfl, _, _, rfl, rfl, _, rfl, _, rfl, _, _, rfl, rfl, _, _, rfl, rfl, _, _, rfl, ⟨by omega, by omega, by omega, by omega⟩, ?_⟩
      have hr' : ∀ i, i ≤ k → ((bs.drop (a + 1)).take (e - (a + 1))).drop i = (bs.drop (a + 1 + i)).take (e - (a + 1 + i)) := fun i hi => by
        rw [List.drop_take, List.drop_drop]
        congr 1
        omega
      have sgn : signOf (Sw.leads x.toNat) ((bs.drop (a + 1)).take (e - (a + 1))) = if mFollow k lo hi ((bs.drop (a + 1)).take (e - (a + 1))) = true then some (k + 1) else none := by rw [hl]; rfl
      refine for_range (n := ((a : Int) + (k : Int) + 1 - ((a : Int) + 1)).toNat) (fun i σ H' => Same H H' ∧ (∃ (L G : Nat) (v : Option V), σ = [some (.ref da), some (.int a), some (.int e), some (.int k), some (.int L), some (.int G), v] ∧ (i = 0 → L = lo ∧ G = hi)) ∧
          mFollow (k - i) (if i = 0 then lo else 128) (if i = 0 then hi else 191) ((bs.drop (a + 1 + i)).take (e - (a + 1 + i))) = mFollow k lo hi ((bs.drop (a + 1)).take (e - (a + 1))))
        ⟨s1, ⟨lo, hi, none, rfl, fun _ => ⟨rfl, rfl⟩⟩, rfl⟩ ?_ ?_
      · rintro i σ H' hi' ⟨s2, ⟨L, G, v, rfl, hLG⟩, hf⟩
        have hik : i < k := by omega
        refine ⟨_, rfl, _, rfl, _, _, rfl, rfl, _, rfl, ?_⟩
        refine idc (fun g => ?_) (fun g => ?_)
        · have : (bs.drop (a + 1 + i)).take (e - (a + 1 + i)) = [] := by rw [show e - (a + 1 + i) = 0 by omega]; rfl
          rw [this, show k - i = (k - i - 1) + 1 by omega] at hf
          have hf' : mFollow k lo hi ((bs.drop (a + 1)).take (e - (a + 1))) = false := hf.symm
          exact ⟨_, rfl, _, rfl, raise (by rw [sgn, hf', if_neg Bool.false_ne_true]) s2⟩
        · have hlt : a + 1 + i < e := by omega
          have hy : bs[a + 1 + i]? = some bs[a + 1 + i] := List.getElem?_eq_getElem (by omega)
          generalize hyc : bs[a + 1 + i] = y at hy
          rw [slice_cons hlt hy, show k - i = (k - (i + 1)) + 1 by omega] at hf
          have hf' : (decide ((if i = 0 then lo else 128) ≤ y.toNat ∧ y.toNat ≤ (if i = 0 then hi else 191)) && mFollow (k - (i + 1)) 128 191 ((bs.drop (a + 1 + (i + 1))).take (e - (a + 1 + (i + 1))))) = mFollow k lo hi ((bs.drop (a + 1)).take (e - (a + 1))) := hf
          -- the two bounds as they stand at the test
          have test : ∀ (L G : Nat), L = (if i = 0 then lo else 128) → G = (if i = 0 then hi else 191) → ∀ (σ : L2.St) (H1 : Hp), Same H H1 → σ = [some (.ref da), some (.int a), some (.int e), some (.int k), some (.int L), some (.int G), some (.int ((a : Int) + 1 + (i : Int)))] →
              tIfS (tOr (tTest (tOp (rI0 fun i j => .bl (decide (i < j))) (tOp (rIxL K) (tVar 0) (tVar 6)) (tVar 4))) (tTest (tOp (rI0 fun i j => .bl (decide (j < i))) (tOp (rIxL K) (tVar 0) (tVar 6)) (tVar 5))))
                (tRaiseBrk CB (fun cls d _ H => E cls d H) (tCons (tVar 6) tNil)) tNext
                { nx := fun σ H' => Same H H' ∧ (∃ (L G : Nat) (v : Option V), σ = [some (.ref da), some (.int a), some (.int e), some (.int k), some (.int L), some (.int G), v] ∧ (i + 1 = 0 → L = lo ∧ G = hi)) ∧
                  mFollow (k - (i + 1)) (if i + 1 = 0 then lo else 128) (if i + 1 = 0 then hi else 191) ((bs.drop (a + 1 + (i + 1))).take (e - (a + 1 + (i + 1)))) = mFollow k lo hi ((bs.drop (a + 1)).take (e - (a + 1))), rt := Q } σ H1 := by
            rintro L G eL eG σ H1 s1 rfl
            rw [← eL, ← eG] at hf'
            have no : ¬ (L ≤ y.toNat ∧ y.toNat ≤ G) → signOf (Sw.leads x.toNat) ((bs.drop (a + 1)).take (e - (a + 1))) = none := fun z => by
              rw [decide_eq_false z, Bool.false_and] at hf'
              rw [sgn, ← hf', if_neg Bool.false_ne_true]
            refine ⟨_, rfl, _, rfl, da, _, _, _, rfl, rfl, s1.seq hq, at_of (j := a + 1 + i) (by omega) (get_bV hy), _, rfl, _, _, rfl, rfl, _, rfl, ?_⟩
            refine idc (fun g1 => ?_) (fun g1 => ?_)
            · exact iteT ⟨_, rfl, _, rfl, raise (no (by omega)) s1⟩
            refine ⟨_, rfl, _, rfl, da, _, _, _, rfl, rfl, s1.seq hq, at_of (j := a + 1 + i) (by omega) (get_bV hy), _, rfl, _, _, rfl, rfl, _, rfl, ?_⟩
            refine idc (fun g2 => ?_) (fun g2 => ?_)
            · exact ⟨_, rfl, _, rfl, raise (no (by omega)) s1⟩
            · refine ⟨s1, ⟨L, G, _, rfl, fun z => absurd z (Nat.succ_ne_zero i)⟩, ?_⟩
              rw [decide_eq_true (show L ≤ y.toNat ∧ y.toNat ≤ G by omega), Bool.true_and] at hf'
              exact hf'
          refine ⟨_, rfl, _, rfl, _, _, rfl, rfl, _, _, rfl, rfl, _, rfl, ?_⟩
          by_cases i0 : i = 0
          · obtain ⟨rfl, rfl⟩ := hLG i0
            refine itf (decide_eq_false (by omega)) ?_
            exact test L G (by rw [if_pos i0]) (by rw [if_pos i0]) _ _ s2 rfl
          · refine itt (decide_eq_true (by omega)) ?_
            refine ⟨(by show 2 ≤ sizeLine; rw [sz_eq]; decide), fun u hu => ⟨u, _, rfl, SqT.of upd_same, rfl, _, _, rfl, _, _, rfl, rfl, ?_⟩⟩
            exact test 128 191 (by rw [if_neg i0]) (by rw [if_neg i0]) _ _ (Same.new' s2 hu) rfl
      · rintro σ H' ⟨s2, ⟨L, G, v, rfl, hLG⟩, hf⟩
        rw [show k - ((a : Int) + (k : Int) + 1 - ((a : Int) + 1)).toNat = 0 by omega] at hf
        have hf' : mFollow k lo hi ((bs.drop (a + 1)).take (e - (a + 1))) = true := hf.symm
        refine ⟨_, rfl, _, rfl, _, _, rfl, rfl, _, _, rfl, rfl, ?_⟩
        exact ks (k + 1) (by rw [sgn, hf', if_pos rfl]) H' s2
end
end Ag

set_option maxRecDepth 100000
set_option maxHeartbeats 2000000
namespace Ag
open PySem PySem.Spec PyProof.Rows L2
/-! ## lists of bytes in order -/
open SeqAt in
theorem first_before : ∀ (ns ms : Sw.Bytes), SeqAt.firstLt (fun j => decide ((ns.map fun c => ((c.toNat : Nat) : Int)).getD j 0 = (ms.map fun c => ((c.toNat : Nat) : Int)).getD j 0)) (fun j => decide ((ns.map fun c => ((c.toNat : Nat) : Int)).getD j 0 ≤ (ms.map fun c => ((c.toNat : Nat) : Int)).getD j 0)) (decide (ns.length ≤ ms.length)) (List.range (min ns.length ms.length)) = !Sw.bytesBefore ms ns
  | [], [] => rfl
  | [], _ :: _ => rfl
  | x :: ns, [] => by
    show decide ((x :: ns).length ≤ 0) = !true
    exact decide_eq_false (by rw [List.length_cons]; omega)
  | x :: ns, y :: ms => by
    have ih := first_before ns ms
    have e1 : min (x :: ns).length (y :: ms).length = min ns.length ms.length + 1 := by rw [List.length_cons, List.length_cons]; omega
    rw [e1, List.range_succ_eq_map]
    have hb : Sw.bytesBefore (y :: ms) (x :: ns) = (decide (y.toNat < x.toNat) || (y == x && Sw.bytesBefore ms ns)) := rfl
    have hl : decide ((x :: ns).length ≤ (y :: ms).length) = decide (ns.length ≤ ms.length) := by
      rw [List.length_cons, List.length_cons]
      exact decide_eq_decide.mpr (by omega)
    rw [hb, hl]
    by_cases h : x = y
    · subst h
      rw [SeqAt.firstLt_yes (by simp), PySem.W.firstLt_map]
      have e2 : decide (x.toNat < x.toNat) = false := decide_eq_false (Nat.lt_irrefl _)
      rw [e2, Bool.false_or, beq_self_eq_true, Bool.true_and, ← ih]
      rfl
    · have hne : x.toNat ≠ y.toNat := fun z => h (UInt8.toNat_inj.mp z)
      rw [SeqAt.firstLt_no (by
        show decide (((x.toNat : Nat) : Int) = ((y.toNat : Nat) : Int)) = false
        exact decide_eq_false (by omega))]
      have e2 : (y == x) = false := beq_eq_false_iff_ne.mpr (Ne.symm h)
      rw [e2, Bool.false_and, Bool.or_false]
      show decide (((x.toNat : Nat) : Int) ≤ ((y.toNat : Nat) : Int)) = !decide (y.toNat < x.toNat)
      by_cases g : y.toNat < x.toNat
      · rw [decide_eq_true g, decide_eq_false (by omega)]; rfl
      · rw [decide_eq_false g, decide_eq_true (by omega)]; rfl
def rLeL (K : PySem.W.Frag) : R2 := fun x y H Q => ∃ (a b : Addr) (ns ms : Sw.Bytes), x = .ref a ∧ y = .ref b ∧ SqL K H a (bV ns) ∧ SqL K H b (bV ms) ∧ Q (.bl (!Sw.bytesBefore ms ns)) H
theorem bV_ints (ns : Sw.Bytes) : bV ns = (ns.map fun c => ((c.toNat : Nat) : Int)).map V.int := by unfold bV; rw [List.map_map]; rfl
/-- codes <= codes -/
theorem op_leL {X : Cx} (hu : X.A.units < cLine) : OpR X (compareOp .LtE) (rLeL X.K) := by
  intro pins s σ H x y v u Q I rx ry h
  obtain ⟨a, b, nb, mb, rfl, rfl, ha, hb, q⟩ := h
  cases rx
  cases ry
  rw [bV_ints] at ha hb
  have fb := first_before nb mb
  generalize hns : (nb.map fun c => ((c.toNat : Nat) : Int)) = ns at ha fb
  generalize hms : (mb.map fun c => ((c.toNat : Nat) : Int)) = ms at hb fb
  have l1 : nb.length = ns.length := by rw [← hns, List.length_map]
  have l2 : mb.length = ms.length := by rw [← hms, List.length_map]
  rw [l1, l2] at fb
  obtain ⟨its, r1, p1, _⟩ := I.list ha
  obtain ⟨its2, r2, p2, _⟩ := I.list hb
  have i1 : IntsAre its ns := Vals.ints r1
  have i2 : IntsAre its2 ms := Vals.ints r2
  have e1 : its.toArray.size = ns.length := by rw [List.size_toArray]; exact i1.length
  have e2 : its2.toArray.size = ms.length := by rw [List.size_toArray]; exact i2.length
  have at1 : ∀ j (h1 : j < its.toArray.size), ∃ t, its.toArray[j] = .int (ns.getD j 0) t := fun j h1 => PyProof.Rows.IntsAre.int_at i1 _ _ (by simp at h1; simp [h1])
  have at2 : ∀ j (h1 : j < its2.toArray.size), ∃ t, its2.toArray[j] = .int (ms.getD j 0) t := fun j h1 => PyProof.Rows.IntsAre.int_at i2 _ _ (by simp at h1; simp [h1])
  have R := SeqAt.RcOp.lists_le (A := X.A) (s := s) (e := fun j => decide (ns.getD j 0 = ms.getD j 0)) (r := fun j => decide (ns.getD j 0 ≤ ms.getD j 0)) p1.isList p2.isList hu (fun j h1 h2 => by
    obtain ⟨t, et⟩ := at1 j h1
    obtain ⟨t', et'⟩ := at2 j h2
    rw [et, et']
    rw [← Bool.beq_eq_decide_eq]
    exact SeqAt.EqAt.int_int _ _ _ _) (fun j h1 h2 _ => by
    obtain ⟨t, et⟩ := at1 j h1
    obtain ⟨t', et'⟩ := at2 j h2
    rw [et, et']
    exact fun _ _ _ _ h => PyProof.Rows.le_int h)
  rw [e1, e2, fb] at R
  have z : wpAny (model X.prog X.w) X.A (compareOp .LtE (.ref a) (.ref b)) (EP X pins σ Q) X.xe s := R X.prog X.w X.xe (EP X pins σ Q) ⟨.bl _, H, I, rfl, q⟩
  exact z
section
variable {P : Program} {w : World} {K : PySem.W.Frag} {mg : Str → Option Value} {base : Heap} {CB fB CV CC CK aKW aPK : Addr}
/-! ## check_text -/
def spCheck (K : PySem.W.Frag) (CB : Addr) : Sp := fun vs H Q E => ∃ (da : Addr) (bs : Sw.Bytes) (a e : Nat), vs = [.ref da, .int a, .int e] ∧ SqL K H da (bV bs) ∧ a ≤ e ∧ e ≤ bs.length ∧ bs.length ≤ 8192 ∧
  (okT ((bs.drop a).take (e - a)) = false → Brk CB [] H E) ∧ (okT ((bs.drop a).take (e - a)) = true → ∀ H', Same H H' → Q .non H')
theorem scCheck : FnScope ["data", "first", "end", "at"] ["data", "first", "end"] (defScope sCheckText) := ⟨rfl, rfl, rfl, by decide +kernel, rfl, by decide +kernel, by decide +kernel⟩
theorem ok_check {f fP : Addr} {fd fdP : FuncData} {psP : List Str} (F : Fun K "check_text" "check_text" sCheckText f fd) (GP : Gf P w K mg base (L2.CX P w) 3 "past_sign" fP fdP psP (spPast K CB)) : FnOk P w K mg base (L2.CX P w) 4 f fd ["data", "first", "end"] (spCheck K CB) := by
  refine F.okX scCheck (fun vs H Q E h => ?_) (fun cdv A outer s H vs Q E hr h => ⟨_,
    pss_cons (ps_set (i := 3) scCheck.nd rfl (Or.inl rfl) (pv 1))
    (pss_one (ps_while poE (pt_cmpR op_lt (pv 3) (pv 2) (nomark _))
      (pss_one (ps_set (i := 3) scCheck.nd rfl (Or.inl rfl) (pe_g GP hr psE (pa_cons (pv 0) (pa_cons (pv 3) (pa_cons (pv 2) pa_nil)))))))), ?_⟩)
  · obtain ⟨da, bs, a, e, rfl, _⟩ := h
    rfl
  · obtain ⟨da, bs, a, e, rfl, hq, hae, hel, hb, kn, ks⟩ := h
    refine ⟨_, rfl, ?_⟩
    refine ⟨fun m σ H' => ∃ i : Nat, m = e - i ∧ σ = [some (.ref da), some (.int a), some (.int e), some (.int i)] ∧ Same H H' ∧ i ≤ e ∧ okT ((bs.drop i).take (e - i)) = okT ((bs.drop a).take (e - a)),
      ⟨e - a, a, rfl, rfl, Same.refl H, hae, rfl⟩, ?_⟩
    rintro m σ H' ⟨i, rfl, rfl, sm, hie, hok⟩
    refine ⟨_, rfl, _, rfl, _, _, rfl, rfl, _, rfl, ?_⟩
    refine idc (fun g => ?_) (fun g => ?_)
    · have hlt : i < e := by omega
      refine ⟨fun σ' H1 => ∃ m', m' < e - i ∧ ∃ j : Nat, m' = e - j ∧ σ' = [some (.ref da), some (.int a), some (.int e), some (.int j)] ∧ Same H H1 ∧ j ≤ e ∧ okT ((bs.drop j).take (e - j)) = okT ((bs.drop a).take (e - a)), fun _ _ h => h, ?_⟩
      have hx : bs[i]? = some bs[i] := List.getElem?_eq_getElem (by omega)
      have hs := slice_cons hlt hx
      refine ⟨_, rfl, _, rfl, _, rfl, da, bs, i, e, rfl, sm.seq hq, hlt, hel, hb, fun hn => ?_, fun k hk H2 s2 => ?_⟩
      · rw [hs] at hn hok
        rw [okT_cons, hn] at hok
        exact fun d H2 k2 => kn hok.symm d H2 ((Kp.of sm).trans k2)
      · have hk1 := sign_pos hk
        have hk2 := sign_le hk
        rw [List.length_take, List.length_drop] at hk2
        rw [hs] at hk hok
        rw [okT_cons, hk] at hok
        have e3 : ((bs[i] :: (bs.drop (i + 1)).take (e - (i + 1))).drop k) = (bs.drop (i + k)).take (e - (i + k)) := by
          rw [← hs, List.drop_take, List.drop_drop]
          congr 1
          omega
        have hok' : okT ((bs[i] :: (bs.drop (i + 1)).take (e - (i + 1))).drop k) = okT ((bs.drop a).take (e - a)) := hok
        rw [e3] at hok'
        exact ⟨e - (i + k), by omega, i + k, rfl, rfl, sm.trans s2, by omega, hok'⟩
    · have : i = e := by omega
      subst this
      rw [Nat.sub_self, List.take_zero, okT_nil] at hok
      exact ks hok.symm H' sm
end
end Ag

set_option maxRecDepth 100000
set_option maxHeartbeats 2000000
namespace Ag
open PySem PySem.Spec PyProof.Rows L2
/-- a method of the text's class at C -/
structure Gm (P : Program) (w : World) (K : PySem.W.Frag) (mg : Str → Option Value) (base : Heap) (C : Addr) (CX : CXT) (k : Nat) (m : Str) (f : Addr) (fd : FuncData) (ps : List Str) (sp : Sp) : Prop where
  F : FnOk P w K mg base CX k f fd ps sp
  M : Meth K C m f
  b : Binds K fd ps []
section
variable {P : Program} {w : World} {K : PySem.W.Frag} {mg : Str → Option Value} {base : Heap} {CB fB CV CC CK aKW aPK : Addr}
theorem ins2 {H : Hp} {c v da : Addr} {p : Nat} {i : VI} (hc : CurAt CC H c da p) (hv : VObj CV H v i) : ∀ b ∈ [c, v], ∃ C dx fs, H b = some (.ins C dx fs) := fun b hb => by
  rcases List.mem_cons.mp hb with rfl | hb
  · obtain ⟨dx, e⟩ := hc; exact ⟨_, _, _, e⟩
  · rw [List.mem_singleton.mp hb]
    obtain ⟨dx, e⟩ := hv; exact ⟨_, _, _, e⟩
theorem Rdr.on {H H' : Hp} {c da : Addr} {bs : Sw.Bytes} {p q : Nat} {S : List Addr} (r : Rdr K CC H c da bs p) (k : Kp S H H') (hS : ∀ b ∈ S, ∃ C dx fs, H b = some (.ins C dx fs)) (hc : CurAt CC H' c da q) (hq : q ≤ bs.length) : Rdr K CC H' c da bs q := ⟨hc, k.seqI r.data hS, r.len, hq⟩
theorem one_in {α : Type} {a b : α} (h : b ∈ [a]) : b = a := List.mem_singleton.mp h
theorem Kp.two {c v : Addr} {H H' : Hp} (k : Kp [c] H H') : Kp [c, v] H H' := k.mono fun b hb => by rw [one_in hb]; exact List.mem_cons_self
theorem Kp.none2 {S : List Addr} {H H' : Hp} (k : Same H H') : Kp S H H' := Kp.of k
theorem VObj.on {H H' : Hp} {c v : Addr} {i : VI} (k : Kp [c] H H') (hv : VObj CV H v i) (hcv : c ≠ v) : VObj CV H' v i := by
  obtain ⟨dx, e⟩ := hv
  exact ⟨dx, k _ _ e fun z => hcv (one_in z).symm⟩
/-! ## read_number -/
def spNum (K : PySem.W.Frag) (CB CC CV : Addr) : Sp := fun vs H Q E => ∃ (c v da : Addr) (bs : Sw.Bytes) (p : Nat) (i : VI), vs = [.ref c, .ref v] ∧ c ≠ v ∧ Rdr K CC H c da bs p ∧ VObj CV H v i ∧
  (mNum (bs.drop p) = none → Brk CB [c, v] H E) ∧ (∀ u, mNum (bs.drop p) = some u → ∀ H' low, CurAt CC H' c da (p + u) → VObj CV H' v { i with low := low } → Kp [c, v] H H' → Q .non H')
theorem scNum : FnScope ["cursor", "value", "size"] ["cursor", "value"] (defScope sReadNumber) := ⟨rfl, rfl, rfl, by decide +kernel, rfl, by decide +kernel, by decide +kernel⟩
theorem ok_num {f fV fS : Addr} {fd fdV fdS : FuncData} {psV psS : List Str} (T : Txt K mg CB fB CV CC CK aKW aPK) (F : Fun K "read_number" "read_number" sReadNumber f fd) (GV : Gm P w K mg base CC (L2.CX P w) 4 "varying" fV fdV psV (spVarying K CB CC)) (GS : Gm P w K mg base CC (L2.CX P w) 3 "span" fS fdS psS (spSpan K CB CC)) :
    FnOk P w K mg base (L2.CX P w) 5 f fd ["cursor", "value"] (spNum K CB CC CV) := by
  refine F.okX scNum (fun vs H Q E h => ?_) (fun cdv A outer s H vs Q E hr h => ⟨_,
    pss_cons (ps_set (i := 2) scNum.nd rfl (Or.inl rfl) (pe_meth0 (pv 0) T.clC GV.M GV.F hr GV.b .nil psE))
    (pss_cons (ps_if (PW.pt (pw_or (pt_cmpR op_eq (pv 2) pe_int (nomark _)) (pw_or1 (pt_cmpR op_gt (pe_op op_fdiv (pv 2) pe_int) (pe_gi T.lNum) (nomark _)))))
      (pss_one (ps_raiseBrk rfl T.brk hr (takes_of rfl rfl rfl rfl) (by exact (pa_cons (pe_fld (pv 1) rfl) pa_nil)))) pss_nil)
    (pss_cons (ps_expr (pe_meth (pv 0) T.clC GS.M GS.F (hr.mono (by decide)) GS.b .nil psE (pa_cons (pe_op op_fdiv (pv 2) pe_int) pa_nil)))
    (pss_cons (ps_if (PW.pt (pw_and (pt_cmpR op_gt (pv 2) pe_int (nomark _)) (pw_and1 (pt_cmpR op_eq (pe_ix ix_list (pe_fld (pv 0) rfl) (pe_op op_sub (pe_fld (pv 0) rfl) pe_int) (fun _ _ => rfl)) pe_int (nomark _)))))
      (pss_one (ps_raiseBrk rfl T.brk hr (takes_of rfl rfl rfl rfl) (by exact (pa_cons (pe_fld (pv 1) rfl) pa_nil)))) pss_nil)
    (pss_one (ps_fld (pv 1) (pe_cmpR op_eq (pe_op op_mod (pv 2) pe_int) pe_int (nomark _)) rfl))))), ?_⟩)
  · obtain ⟨c, v, da, bs, p, i, rfl, _⟩ := h
    rfl
  · obtain ⟨c, v, da, bs, p, i, rfl, hcv, r, hv, kn, ks⟩ := h
    obtain ⟨dx, hc⟩ := id r.cur
    have back : ∀ {H1 : Hp}, Kp [c, v] H H1 → mNum (bs.drop p) = none → ∀ {x : V} d, H1 d = none → E (.ref CB) (some d) (upd H1 d (.xd [(("place" : Str), x)])) := fun k1 hn x d hd => kn hn d _ (k1.new' hd)
    refine ⟨_, rfl, c, dx, _, rfl, hc, by rfl, ⟨c, da, bs, p, rfl, r, fun hn => ?_, fun z u hz H1 hc1 k1 => ?_⟩⟩
    · have : mNum (bs.drop p) = none := by unfold mNum; rw [hn]
      exact fun d H2 k2 => kn this d H2 k2.two
    have hu := mVary_used hz
    rw [List.length_drop] at hu
    have le := r.le
    have hv1 := hv.on k1 hcv
    obtain ⟨dv, ev⟩ := id hv1
    have hnum : mNum (bs.drop p) = if z = 1 ∨ 4096 < z / 2 then none else if bs.length - p - u < z / 2 then none else if 1 < z ∧ (bs.drop p)[u + z / 2 - 1]? = some 0 then none else some (u + z / 2) := by
      unfold mNum
      rw [hz]
      show (if z = 1 ∨ 4096 < z / 2 then none else if (bs.drop p).length - u < z / 2 then none else _) = _
      rw [List.length_drop]
    have r1 : Rdr K CC H1 c da bs (p + u) := r.on k1 r.cur.isIns hc1 (by omega)
    refine ⟨_, rfl, rfl, _, rfl, ?_⟩
    refine idc (fun g => ?_) (fun g => ?_)
    · have g' : z = 1 := by have := V.int.inj g; omega
      exact iteT ⟨_, rfl, v, CV, dv, _, _, rfl, ev, T.clV, T.vPlace, vF_place i, _, rfl, fun d hd => back k1.two (by rw [hnum, if_pos (.inl g')]) d hd⟩
    have g' : z ≠ 1 := fun q => g (by rw [q] <;> rfl)
    refine ⟨_, rfl, _, _, rfl, rfl, ⟨by decide, by decide⟩, _, _, rfl, rfl, _, rfl, ?_⟩
    refine idc (fun g1 => ?_) (fun g1 => ?_)
    · exact ⟨_, rfl, v, CV, dv, _, _, rfl, ev, T.clV, T.vPlace, vF_place i, _, rfl, fun d hd => back k1.two (by rw [hnum, if_pos (.inr (by omega))]) d hd⟩
    rw [if_neg (by omega)] at hnum
    obtain ⟨dx1, ec1⟩ := id hc1
    refine ⟨_, rfl, c, dx1, _, rfl, ec1, by rfl, _, rfl, _, _, rfl, rfl, ⟨by decide, by decide⟩, ⟨c, da, bs, p + u, z / 2, rfl, r1, fun hn => ?_, fun hn H2 hc2 k2 => ?_⟩⟩
    · have : mNum (bs.drop p) = none := by rw [hnum, if_pos (by omega)]
      exact fun d H3 k3 => kn this d H3 (k1.trans k3).two
    rw [if_neg (by omega)] at hnum
    have hv2 := hv1.on k2 hcv
    obtain ⟨dv2, ev2⟩ := id hv2
    have r2 : Rdr K CC H2 c da bs (p + u + z / 2) := r1.on k2 r1.cur.isIns hc2 (by omega)
    have kk := (k1.trans k2).two (v := v)
    obtain ⟨dx2, ec2⟩ := id hc2
    have fin : ¬ (1 < z ∧ (bs.drop p)[u + z / 2 - 1]? = some 0) →
        sFld K (tVar 1) (tOp rEq (tOp (rI (fun _ j => 0 < j) fun i j => .int (i % j)) (tVar 2) (tC (.int 2))) (tC (.int 1))) "low" { nx := fun _ H' => Q .non H', rt := Q } [some (.ref c), some (.ref v), some (.int z)] H2 := fun hz0 => by
      rw [if_neg hz0] at hnum
      refine ⟨_, rfl, _, _, rfl, rfl, (by show (0 : Int) < 2; decide), rfl, _, rfl, v, CV, dv2, _, rfl, ev2, T.clV, T.vLow, vF_len i, ?_⟩
      rw [put_low]
      refine ks _ hnum _ _ ⟨dx2, ?_⟩ ⟨dv2, upd_same⟩ (kk.write' (by simp))
      rw [upd_ne hcv, ← Nat.add_assoc]
      exact ec2
    refine ⟨_, rfl, _, _, rfl, rfl, _, rfl, ?_⟩
    refine idc (fun g2 => ?_) (fun g2 => ?_)
    · have hg : bs[p + u + z / 2 - 1]? = some bs[p + u + z / 2 - 1] := List.getElem?_eq_getElem (by omega)
      generalize hlc : bs[p + u + z / 2 - 1] = last at hg
      have hdg : (bs.drop p)[u + z / 2 - 1]? = some last := by
        rw [List.getElem?_drop, show p + (u + z / 2 - 1) = p + u + z / 2 - 1 by omega]
        exact hg
      refine ⟨_, rfl, c, CC, dx2, _, _, rfl, ec2, T.clC, T.cData, cF_data da _, _, rfl, c, CC, dx2, _, _, rfl, ec2, T.clC, T.cAt, cF_at da _, _, _, rfl, rfl, da, _, _, _, rfl, rfl, r2.data, at_of (j := p + u + z / 2 - 1) (by omega) (get_bV hg), rfl, _, rfl, ?_⟩
      refine idc (fun g3 => ?_) (fun g3 => ?_)
      · have g3' : last = 0 := UInt8.toNat_inj.mp (by have := V.int.inj g3; show last.toNat = 0; omega)
        subst g3'
        rw [if_pos ⟨by omega, hdg⟩] at hnum
        exact ⟨_, rfl, v, CV, dv2, _, _, rfl, ev2, T.clV, T.vPlace, vF_place i, _, rfl, fun d hd => back kk hnum d hd⟩
      · refine fin fun q => g3 ?_
        have := hdg.symm.trans q.2
        injection this with this
        rw [this]
        rfl
    · exact fin fun q => g2 (by omega)
end
end Ag

set_option maxRecDepth 100000
set_option maxHeartbeats 2000000
namespace Ag
open PySem PySem.Spec PyProof.Rows L2
theorem six_nat (n d i : Nat) (h : i ≤ n) : HT.sIx n d (some (i : Int)) = i := by
  rw [HT.sIx_nat]
  omega
theorem cut_bV (bs : Sw.Bytes) (a e : Nat) (h1 : a ≤ e) (h2 : e ≤ bs.length) : cutV (bV bs) (some (a : Int)) (some (e : Int)) = bV ((bs.drop a).take (e - a)) := by
  unfold cutV
  rw [bV_length, six_nat _ 0 a (by omega), six_nat _ _ e h2]
  unfold bV
  rw [List.map_take, List.map_drop]
section
variable {P : Program} {w : World} {K : PySem.W.Frag} {mg : Str → Option Value} {base : Heap} {CB fB CV CC CK aKW aPK : Addr}
/-! ## read_codes -/
def spCodes (K : PySem.W.Frag) (CB CC CV : Addr) : Sp := fun vs H Q E => ∃ (c v da : Addr) (bs : Sw.Bytes) (p : Nat) (i : VI), vs = [.ref c, .ref v] ∧ c ≠ v ∧ Rdr K CC H c da bs p ∧ VObj CV H v i ∧
  (mCodes (decide (i.tag = 4)) (bs.drop p) = none → Brk CB [c, v] H E) ∧ (∀ cc u, mCodes (decide (i.tag = 4)) (bs.drop p) = some (cc, u) → ∀ H' j, CurAt CC H' c da (p + u) → VObj CV H' v { i with cl := j } →
    (i.tag = 4 → H j = none ∧ H' j = some (.lst (bV cc))) → (i.tag ≠ 4 → j = i.cl) → Kp [c, v] H H' → Q .non H')
theorem scCodes : FnScope ["cursor", "value", "first"] ["cursor", "value"] (defScope sReadCodes) := ⟨rfl, rfl, rfl, by decide +kernel, rfl, by decide +kernel, by decide +kernel⟩
theorem ok_codes {f fV fS fC : Addr} {fd fdV fdS fdC : FuncData} {psV psS psC : List Str} (T : Txt K mg CB fB CV CC CK aKW aPK) (F : Fun K "read_codes" "read_codes" sReadCodes f fd) (GV : Gm P w K mg base CC (L2.CX P w) 4 "varying" fV fdV psV (spVarying K CB CC)) (GS : Gm P w K mg base CC (L2.CX P w) 3 "span" fS fdS psS (spSpan K CB CC))
    (GC : Gf P w K mg base (L2.CX P w) 4 "check_text" fC fdC psC (spCheck K CB)) : FnOk P w K mg base (L2.CX P w) 5 f fd ["cursor", "value"] (spCodes K CB CC CV) := by
  refine F.okX scCodes (fun vs H Q E h => ?_) (fun cdv A outer s H vs Q E hr h => ⟨_,
    pss_cons (ps_set (i := 2) scCodes.nd rfl (Or.inl rfl) (pe_meth (pv 0) T.clC GS.M GS.F (hr.mono (by decide)) GS.b .nil psE (pa_cons (pe_meth0 (pv 0) T.clC GV.M GV.F hr GV.b .nil psE) pa_nil)))
    (pss_one (ps_if (pt_cmpR op_eq (pe_fld (pv 1) rfl) (pe_gi T.tTxt) (nomark _))
      (pss_cons (ps_expr (pe_g GC hr psE (pa_cons (pe_fld (pv 0) rfl) (pa_cons (pv 2) (pa_cons (pe_fld (pv 0) rfl) pa_nil)))))
      (pss_one (ps_fld (pv 1) (pe_slice sl_list (pe_fld (pv 0) rfl) (po_some (pv 2)) (po_some (pe_fld (pv 0) rfl))) rfl))) pss_nil)), ?_⟩)
  · obtain ⟨c, v, da, bs, p, i, rfl, _⟩ := h
    rfl
  · obtain ⟨c, v, da, bs, p, i, rfl, hcv, r, hv, kn, ks⟩ := h
    obtain ⟨dx, hc⟩ := id r.cur
    refine ⟨_, rfl, c, dx, _, rfl, hc, by rfl, _, rfl, c, dx, _, rfl, hc, by rfl, ⟨c, da, bs, p, rfl, r, fun hn => ?_, fun n u hz H1 hc1 k1 => ?_⟩⟩
    · have : mCodes (decide (i.tag = 4)) (bs.drop p) = none := by unfold mCodes; rw [hn]
      exact fun d H2 k2 => kn this d H2 k2.two
    have hu := mVary_used hz
    rw [List.length_drop] at hu
    have le := r.le
    have hv1 := hv.on k1 hcv
    have r1 : Rdr K CC H1 c da bs (p + u) := r.on k1 r.cur.isIns hc1 (by omega)
    have hnum : mCodes (decide (i.tag = 4)) (bs.drop p) = if bs.length - p - u < n then none else if decide (i.tag = 4) = true ∧ okT ((bs.drop (p + u)).take n) = false then none else some (if decide (i.tag = 4) = true then (bs.drop (p + u)).take n else [], u + n) := by
      unfold mCodes
      rw [hz]
      show (if (bs.drop p).length - u < n then none else if decide (i.tag = 4) = true ∧ okT (((bs.drop p).drop u).take n) = false then none else some (if decide (i.tag = 4) = true then ((bs.drop p).drop u).take n else [], u + n)) = _
      rw [List.length_drop, List.drop_drop]
    refine ⟨c, da, bs, p + u, n, rfl, r1, fun hn => ?_, fun hn H2 hc2 k2 => ?_⟩
    · have : mCodes (decide (i.tag = 4)) (bs.drop p) = none := by rw [hnum, if_pos (by omega)]
      exact fun d H3 k3 => kn this d H3 (k1.trans k3).two
    rw [if_neg (by omega)] at hnum
    have hv2 := hv1.on k2 hcv
    obtain ⟨dv2, ev2⟩ := id hv2
    have r2 : Rdr K CC H2 c da bs (p + u + n) := r1.on k2 r1.cur.isIns hc2 (by omega)
    have kk := (k1.trans k2).two (v := v)
    obtain ⟨dx2, ec2⟩ := id hc2
    refine ⟨_, rfl, v, CV, dv2, _, _, rfl, ev2, T.clV, T.vTag, vF_tag i, rfl, _, rfl, ?_⟩
    refine idc (fun g => ?_) (fun g => ?_)
    · have g4 : i.tag = 4 := by have := V.int.inj g; omega
      rw [decide_eq_true g4] at hnum kn ks
      refine ⟨_, rfl, c, CC, dx2, _, _, rfl, ec2, T.clC, T.cData, cF_data da _, _, rfl, _, rfl, c, CC, dx2, _, _, rfl, ec2, T.clC, T.cAt, cF_at da _, da, bs, p + u, p + u + n, rfl, r2.data, by omega, by omega, r2.len, fun hn => ?_, fun hn H3 s3 => ?_⟩
      · rw [show p + u + n - (p + u) = n by omega] at hn
        rw [if_pos ⟨rfl, hn⟩] at hnum
        exact fun d H4 k4 => kn hnum d H4 (kk.trans (k4.mono (by simp)))
      · rw [show p + u + n - (p + u) = n by omega] at hn
        rw [if_neg (fun q => by rw [hn] at q; cases q.2), if_pos rfl] at hnum
        have ec3 := s3 _ _ ec2
        refine ⟨_, rfl, c, CC, dx2, _, _, rfl, ec3, T.clC, T.cData, cF_data da _, _, rfl, _, rfl, _, rfl, c, CC, dx2, _, _, rfl, ec3, T.clC, T.cAt, cF_at da _, _, rfl, da, _, rfl, s3.seq r2.data, fun j hj => ?_⟩
        rw [cut_bV _ _ _ (by omega) (by omega), show p + u + n - (p + u) = n by omega]
        have hjv : v ≠ j := ne_of_none (s3 _ _ ev2) hj
        have hjc : c ≠ j := ne_of_none ec3 hj
        refine ⟨_, rfl, v, CV, dv2, _, rfl, by rw [upd_ne hjv]; exact s3 _ _ ev2, T.clV, T.vCodes, vF_len i, ?_⟩
        rw [put_codes]
        refine ks _ _ hnum _ j ⟨dx2, ?_⟩ ⟨dv2, upd_same⟩ (fun _ => ⟨?_, ?_⟩) (fun q => absurd g4 q) (((kk.trans (Kp.of s3)).new' hj).write' (by simp))
        · rw [upd_ne hcv, upd_ne hjc, ← Nat.add_assoc]
          exact ec3
        · cases e : H j with
          | none => rfl
          | some o =>
            by_cases hm : j ∈ [c, v]
            · rcases List.mem_cons.mp hm with z | z
              · exact absurd z.symm hjc
              · exact absurd (one_in z).symm hjv
            · have := (kk.trans (Kp.of s3)) j o e hm
              rw [hj] at this
              cases this
        · rw [upd_ne (Ne.symm hjv), upd_same]
    · have g4 : i.tag ≠ 4 := fun q => g (by rw [q] <;> rfl)
      rw [decide_eq_false g4] at hnum ks
      rw [if_neg (fun q => Bool.false_ne_true q.1), if_neg Bool.false_ne_true] at hnum
      refine ks _ _ hnum H2 i.cl ⟨dx2, ?_⟩ ⟨dv2, ev2⟩ (fun q => absurd q g4) (fun _ => rfl) kk
      rw [← Nat.add_assoc]
      exact ec2
end
end Ag

set_option maxRecDepth 100000
set_option maxHeartbeats 2000000
namespace Ag
open PySem PySem.Spec PyProof.Rows L2
section
variable {P : Program} {w : World} {K : PySem.W.Frag} {mg : Str → Option Value} {base : Heap} {CB fB CV CC CK aKW aPK : Addr}
/-! ## read_name -/
def spName (K : PySem.W.Frag) (CB CC CV : Addr) : Sp := fun vs H Q E => ∃ (c v da : Addr) (bs : Sw.Bytes) (p : Nat) (i : VI) (prev : Sw.Bytes) (names : List Sw.Bytes), vs = [.ref c, .ref v] ∧ c ≠ v ∧ Rdr K CC H c da bs p ∧ VObj CV H v i ∧
  H i.cl = some (.lst (bV prev)) ∧ H i.nl = some (.lst (nmV names)) ∧ names.length ≤ 100000 ∧
  (mName prev (bs.drop p) = none → Brk CB [c, v] H E) ∧ (∀ m u, mName prev (bs.drop p) = some (m, u) → ∀ H' j, CurAt CC H' c da (p + u) → VObj CV H' v { i with cl := j } →
    H j = none → H' j = some (.lst (bV m)) → H' i.nl = some (.lst (nmV (names ++ [m]))) → Kp [c, v, i.nl] H H' → Q .non H')
theorem scName : FnScope ["cursor", "record", "place", "size", "first", "codes"] ["cursor", "record"] (defScope sReadName) := ⟨rfl, rfl, rfl, by decide +kernel, rfl, by decide +kernel, by decide +kernel⟩
theorem nmV_append (a b : List Sw.Bytes) : nmV (a ++ b) = nmV a ++ nmV b := by unfold nmV; rw [List.map_append]
theorem ok_name {f fV fS fC fW : Addr} {fd fdV fdS fdC fdW : FuncData} {psV psS psC psW : List Str} (T : Txt K mg CB fB CV CC CK aKW aPK) (F : Fun K "read_name" "read_name" sReadName f fd) (GV : Gm P w K mg base CC (L2.CX P w) 4 "varying" fV fdV psV (spVarying K CB CC)) (GS : Gm P w K mg base CC (L2.CX P w) 3 "span" fS fdS psS (spSpan K CB CC))
    (GC : Gf P w K mg base (L2.CX P w) 4 "check_text" fC fdC psC (spCheck K CB)) (GW : Gf P w K mg base CX0 2 "word_of" fW fdW psW (spWordOf K)) : FnOk P w K mg base (L2.CX P w) 5 f fd ["cursor", "record"] (spName K CB CC CV) := by
  refine F.okX scName (fun vs H Q E h => ?_) (fun cdv A outer s H vs Q E hr h => ⟨_,
    pss_cons (ps_set (i := 2) scName.nd rfl (Or.inl rfl) (pe_fld (pv 0) rfl))
    (pss_cons (ps_set (i := 3) scName.nd rfl (Or.inl rfl) (pe_meth0 (pv 0) T.clC GV.M GV.F hr GV.b .nil psE))
    (pss_cons (ps_if (PW.pt (pw_or (pt_cmpR op_lt (pv 3) pe_int (nomark _)) (pw_or1 (pt_cmpR op_gt (pv 3) (pe_gi T.lName) (nomark _)))))
      (pss_one (ps_raiseBrk rfl T.brk hr (takes_of rfl rfl rfl rfl) (by exact (pa_cons (pv 2) pa_nil)))) pss_nil)
    (pss_cons (ps_set (i := 4) scName.nd rfl (Or.inl rfl) (pe_meth (pv 0) T.clC GS.M GS.F (hr.mono (by decide)) GS.b .nil psE (pa_cons (pv 3) pa_nil)))
    (pss_cons (ps_expr (pe_g GC hr psE (pa_cons (pe_fld (pv 0) rfl) (pa_cons (pv 4) (pa_cons (pe_fld (pv 0) rfl) pa_nil)))))
    (pss_cons (ps_set (i := 5) scName.nd rfl (Or.inl rfl) (pe_slice sl_list (pe_fld (pv 0) rfl) (po_some (pv 4)) (po_some (pe_fld (pv 0) rfl))))
    (pss_cons (ps_if (pt_cmpR (op_leL hr.units0) (pv 5) (pe_fld (pv 1) rfl) (nomark _))
      (pss_one (ps_raiseBrk rfl T.brk hr (takes_of rfl rfl rfl rfl) (by exact (pa_cons (pv 2) pa_nil)))) pss_nil)
    (pss_cons (ps_fld (pv 1) (pv 5) rfl)
    (pss_one (ps_expr (pe_bm PySem.F.plainAttrs_list PySem.F.slot_list_append PySem.F.type_list_append mt_append (pe_fld (pv 1) rfl) (pa_cons (pe_g GW (hr.mono (by decide)) pass0 (pa_cons (pv 5) pa_nil)) pa_nil))))))))))), ?_⟩)
  · obtain ⟨c, v, da, bs, p, i, prev, names, rfl, _⟩ := h
    rfl
  · obtain ⟨c, v, da, bs, p, i, prev, names, rfl, hcv, r, hv, hcl, hnl, hnn, kn, ks⟩ := h
    obtain ⟨dx, hc⟩ := id r.cur
    refine ⟨_, rfl, c, CC, dx, _, _, rfl, hc, T.clC, T.cAt, cF_at da p, ?_⟩
    refine ⟨_, rfl, c, dx, _, rfl, hc, by rfl, ⟨c, da, bs, p, rfl, r, fun hn => ?_, fun n u hz H1 hc1 k1 => ?_⟩⟩
    · have : mName prev (bs.drop p) = none := by unfold mName; rw [hn]
      exact fun d H2 k2 => kn this d H2 k2.two
    have hu := mVary_used hz
    rw [List.length_drop] at hu
    have le := r.le
    have hv1 := hv.on k1 hcv
    have r1 : Rdr K CC H1 c da bs (p + u) := r.on k1 r.cur.isIns hc1 (by omega)
    have hnum : mName prev (bs.drop p) = if n < 1 ∨ 255 < n then none else if bs.length - p - u < n then none else if okT ((bs.drop (p + u)).take n) = false then none
        else if Sw.bytesBefore prev ((bs.drop (p + u)).take n) = true then some ((bs.drop (p + u)).take n, u + n) else none := by
      unfold mName
      rw [hz]
      show (if n < 1 ∨ 255 < n then none else if (bs.drop p).length - u < n then none else if okT (((bs.drop p).drop u).take n) = false then none
        else if Sw.bytesBefore prev (((bs.drop p).drop u).take n) = true then some (((bs.drop p).drop u).take n, u + n) else none) = _
      rw [List.length_drop, List.drop_drop]
    have raise : ∀ {H2 : Hp}, Kp [c] H H2 → mName prev (bs.drop p) = none → ∀ {x : V} d, H2 d = none → E (.ref CB) (some d) (upd H2 d (.xd [(("place" : Str), x)])) := fun k2 hn x d hd => kn hn d _ ((k2.two).new' hd)
    refine ⟨_, rfl, _, _, rfl, rfl, _, rfl, ?_⟩
    refine idc (fun g => ?_) (fun g => ?_)
    · exact iteT ⟨_, rfl, _, rfl, fun d hd => raise k1 (by rw [hnum, if_pos (.inl (by omega))]) d hd⟩
    refine ⟨_, rfl, _, _, rfl, rfl, _, rfl, ?_⟩
    refine idc (fun g1 => ?_) (fun g1 => ?_)
    · exact ⟨_, rfl, _, rfl, fun d hd => raise k1 (by rw [hnum, if_pos (.inr (by omega))]) d hd⟩
    rw [if_neg (by omega)] at hnum
    obtain ⟨dx1, ec1⟩ := id hc1
    refine ⟨_, rfl, c, dx1, _, rfl, ec1, by rfl, _, rfl, c, da, bs, p + u, n, rfl, r1, fun hn => ?_, fun hn H2 hc2 k2 => ?_⟩
    · have : mName prev (bs.drop p) = none := by rw [hnum, if_pos (by omega)]
      exact fun d H3 k3 => kn this d H3 (k1.trans k3).two
    rw [if_neg (by omega)] at hnum
    have r2 : Rdr K CC H2 c da bs (p + u + n) := r1.on k2 r1.cur.isIns hc2 (by omega)
    have k12 := k1.trans k2
    obtain ⟨dx2, ec2⟩ := id hc2
    refine ⟨_, rfl, c, CC, dx2, _, _, rfl, ec2, T.clC, T.cData, cF_data da _, _, rfl, _, rfl, c, CC, dx2, _, _, rfl, ec2, T.clC, T.cAt, cF_at da _, da, bs, p + u, p + u + n, rfl, r2.data, by omega, by omega, r2.len, fun hn => ?_, fun hn H3 s3 => ?_⟩
    · rw [show p + u + n - (p + u) = n by omega] at hn
      rw [if_pos hn] at hnum
      exact fun d H4 k4 => kn hnum d H4 (k12.two.trans (k4.mono (by simp)))
    rw [show p + u + n - (p + u) = n by omega] at hn
    rw [if_neg (by rw [hn]; decide)] at hnum
    have ec3 := s3 _ _ ec2
    have k13 := k12.trans (Kp.of s3)
    refine ⟨_, rfl, c, CC, dx2, _, _, rfl, ec3, T.clC, T.cData, cF_data da _, _, rfl, _, rfl, _, rfl, c, CC, dx2, _, _, rfl, ec3, T.clC, T.cAt, cF_at da _, _, rfl, da, _, rfl, s3.seq r2.data, fun j hj => ?_⟩
    rw [cut_bV _ _ _ (by omega) (by omega), show p + u + n - (p + u) = n by omega]
    generalize hm : (bs.drop (p + u)).take n = m at hnum
    have hml : m.length ≤ 255 := by rw [← hm, List.length_take]; omega
    have k14 := k13.new' (o := .lst (bV m)) hj
    generalize hH4 : upd H3 j (.lst (bV m)) = H4 at k14
    have hj4 : H4 j = some (.lst (bV m)) := by rw [← hH4, upd_same]
    have nc : ∀ {a : Addr} {xs : List V}, H a = some (.lst xs) → a ≠ c := fun e z => by rw [z, hc] at e; cases e
    obtain ⟨dv, ev⟩ := id hv
    have nv : ∀ {a : Addr} {xs : List V}, H a = some (.lst xs) → a ≠ v := fun e z => by rw [z, ev] at e; cases e
    have ev4 : H4 v = some (.ins CV dv (vF i)) := k14 _ _ ev fun z => hcv (one_in z).symm
    have ecl4 : H4 i.cl = some (.lst (bV prev)) := k14 _ _ hcl fun z => nc hcl (one_in z)
    have enl4 : H4 i.nl = some (.lst (nmV names)) := k14 _ _ hnl fun z => nc hnl (one_in z)
    have ec4 : H4 c = some (.ins CC dx2 (cF da (p + u + n))) := by rw [← hH4, upd_ne (ne_of_none ec3 hj)]; exact ec3
    have hjH : H j = none := by
      cases e : H j with
      | none => rfl
      | some o =>
        have := k13 j o e (fun z => ne_of_none ec3 hj (one_in z).symm)
        rw [hj] at this
        cases this
    refine ⟨_, rfl, _, rfl, v, CV, dv, _, _, rfl, ev4, T.clV, T.vCodes, vF_codes i, _, _, m, prev, rfl, rfl, SqL.of hj4, SqL.of ecl4, _, rfl, ?_⟩
    cases hb : Sw.bytesBefore prev m with
    | false =>
      rw [if_neg (by rw [hb]; decide)] at hnum
      exact iteT ⟨_, rfl, _, rfl, fun d hd => raise k14 hnum d hd⟩
    | true =>
      rw [if_pos hb] at hnum
      refine iteF ⟨_, rfl, _, rfl, v, CV, dv, _, rfl, ev4, T.clV, T.vCodes, vF_len i, ?_⟩
      rw [put_codes]
      have hnv : i.nl ≠ v := nv hnl
      have hjv : j ≠ v := fun z => by rw [z, ev] at hjH; cases hjH
      refine ⟨_, rfl, v, CV, dv, _, _, rfl, upd_same, T.clV, T.vNames, vF_names _, .inl ⟨rfl, _, SqL.of ((upd_ne hnv).trans enl4)⟩, ?_⟩
      refine ⟨_, rfl, j, m, rfl, SqL.of ((upd_ne hjv).trans hj4), by omega, fun H5 s5 => ?_⟩
      have enl5 : H5 i.nl = some (.lst (nmV names)) := s5 _ _ ((upd_ne hnv).trans enl4)
      have hnj : j ≠ i.nl := fun z => by rw [z, hnl] at hjH; cases hjH
      refine ⟨i.nl, _, _, rfl, rfl, enl5, by rw [nmV_length, sz_eq]; omega, ?_⟩
      have kall : Kp [c, v, i.nl] H H5 := ((k14.mono (fun b hb => by rw [one_in hb]; simp)).write' (p := v) (by simp)).trans (Kp.of s5)
      refine ks m (u + n) hnum _ j ⟨dx2, ?_⟩ ⟨dv, ?_⟩ hjH ?_ ?_ (kall.write' (by simp))
      · rw [upd_ne (Ne.symm (nc hnl)), ← Nat.add_assoc]
        exact s5 _ _ ((upd_ne hcv).trans ec4)
      · rw [upd_ne (Ne.symm hnv)]
        exact s5 _ _ upd_same
      · rw [upd_ne hnj]
        exact s5 _ _ ((upd_ne hjv).trans hj4)
      · show upd H5 i.nl (.lst (nmV names ++ [V.str (bS (m.map lc))])) i.nl = _
        rw [upd_same, nmV_append]
        rfl
end
end Ag

set_option maxRecDepth 100000
set_option maxHeartbeats 2000000
namespace Ag
open PySem PySem.Spec PyProof.Rows L2
theorem Kp.drop {S : List Addr} {c v : Addr} {H H2 H3 : Hp} (k : Kp [c] H H2) (hv : H v = none) (k2 : Kp [c, v] H2 H3) : Kp [c] H H3 := fun b o e n => by
  refine k2 b o (k b o e n) fun z => ?_
  rcases List.mem_cons.mp z with z | z
  · exact n (by rw [z]; exact List.mem_singleton.mpr rfl)
  · rw [one_in z, hv] at e; cases e
/-- a Value that was just read -/
structure NewV (CV : Addr) (H H' : Hp) (a : Addr) (i : VI) (tag place many : Nat) (codes : Sw.Bytes) : Prop where
  obj : VObj CV H' a i
  tag : i.tag = tag
  place : i.place = place
  many : i.many = many
  cl : H' i.cl = some (.lst (bV codes))
  nl : H' i.nl = some (.lst [])
  ml : H' i.ml = some (.lst [])
  na : H a = none
  ncl : H i.cl = none
  nnl : H i.nl = none
  nml : H i.ml = none
  nd : [a, i.cl, i.nl, i.ml].Nodup
section
variable {P : Program} {w : World} {K : PySem.W.Frag} {mg : Str → Option Value} {base : Heap} {CB fB CV CC CK aKW aPK : Addr}
/-! ## read_head -/
def spHead (K : PySem.W.Frag) (CB CC CV : Addr) : Sp := fun vs H Q E => ∃ (c da : Addr) (bs : Sw.Bytes) (p deep : Nat), vs = [.ref c, .int deep] ∧ Rdr K CC H c da bs p ∧
  (mHead deep (bs.drop p) = none → Brk CB [c] H E) ∧ (∀ tag many codes u, mHead deep (bs.drop p) = some (tag, many, codes, u) → ∀ H' a i, CurAt CC H' c da (p + u) → NewV CV H H' a i tag p many codes → Kp [c] H H' → Q (.ref a) H')
theorem scHead : FnScope ["cursor", "deep", "place", "tag", "value"] ["cursor", "deep"] (defScope sReadHead) := ⟨rfl, rfl, rfl, by decide +kernel, rfl, by decide +kernel, by decide +kernel⟩
theorem ok_head {f fI fY fV fS fN fO : Addr} {fd fdI fdY fdV fdS fdN fdO : FuncData} {psY psV psS psN psO : List Str} (T : Txt K mg CB fB CV CC CK aKW aPK) (F : Fun K "read_head" "read_head" sReadHead f fd)
    (M : Mk K CV fI) (GI : FnOk P w K mg base CX0 1 fI fdI ["self", "tag", "place"] (spVInit CV)) (bI : Binds K fdI ["self", "tag", "place"] [])
    (GY : Gm P w K mg base CC (L2.CX P w) 3 "byte" fY fdY psY (spByte K CB CC)) (GV : Gm P w K mg base CC (L2.CX P w) 4 "varying" fV fdV psV (spVarying K CB CC)) (GS : Gm P w K mg base CC (L2.CX P w) 3 "span" fS fdS psS (spSpan K CB CC))
    (GN : Gf P w K mg base (L2.CX P w) 5 "read_number" fN fdN psN (spNum K CB CC CV)) (GO : Gf P w K mg base (L2.CX P w) 5 "read_codes" fO fdO psO (spCodes K CB CC CV)) : FnOk P w K mg base (L2.CX P w) 6 f fd ["cursor", "deep"] (spHead K CB CC CV) := by
  refine F.okX scHead (fun vs H Q E h => ?_) (fun cdv A outer s H vs Q E hr h => ⟨_,
    pss_cons (ps_set (i := 2) scHead.nd rfl (Or.inl rfl) (pe_fld (pv 0) rfl))
    (pss_cons (ps_set (i := 3) scHead.nd rfl (Or.inl rfl) (pe_meth0 (pv 0) T.clC GY.M GY.F (hr.mono (by decide)) GY.b .nil psE))
    (pss_cons (ps_if (PW.pt (pw_or (pt_cmpR op_gt (pv 3) (pe_gi T.tId) (nomark _)) (pw_or1 (pt_cmpR op_gt (pv 1) (pe_gi T.deepest) (nomark _)))))
      (pss_one (ps_raiseBrk rfl T.brk hr (takes_of rfl rfl rfl rfl) (by exact (pa_cons (pv 2) pa_nil)))) pss_nil)
    (pss_cons (ps_set (i := 4) scHead.nd rfl (Or.inl rfl) (pe_make M GI (hr.mono (by decide)) rfl T.gV bI .nil pass0 (pa_cons (pv 3) (pa_cons (pv 2) pa_nil))))
    (pss_cons (ps_if (pt_cmpR op_eq (pv 3) (pe_gi T.tNum) (nomark _)) (pss_one (ps_expr (pe_g GN hr psE (pa_cons (pv 0) (pa_cons (pv 4) pa_nil)))))
      (pss_one (ps_if (PW.pt (pw_or (pt_cmpR op_eq (pv 3) (pe_gi T.tByt) (nomark _)) (pw_or1 (pt_cmpR op_eq (pv 3) (pe_gi T.tTxt) (nomark _))))) (pss_one (ps_expr (pe_g GO hr psE (pa_cons (pv 0) (pa_cons (pv 4) pa_nil)))))
      (pss_one (ps_if (PW.pt (pw_or (pt_cmpR op_eq (pv 3) (pe_gi T.tLst) (nomark _)) (pw_or1 (pt_cmpR op_eq (pv 3) (pe_gi T.tRec) (nomark _))))) (pss_one (ps_fld (pv 4) (pe_meth0 (pv 0) T.clC GV.M GV.F (hr.mono (by decide)) GV.b .nil psE) rfl))
      (pss_one (ps_if (pt_cmpR op_eq (pv 3) (pe_gi T.tMom) (nomark _)) (pss_one (ps_expr (pe_meth (pv 0) T.clC GS.M GS.F (hr.mono (by decide)) GS.b .nil psE (pa_cons pe_int pa_nil))))
      (pss_one (ps_if (pt_cmpR op_eq (pv 3) (pe_gi T.tId) (nomark _)) (pss_one (ps_expr (pe_meth (pv 0) T.clC GS.M GS.F (hr.mono (by decide)) GS.b .nil psE (pa_cons pe_int pa_nil)))) pss_nil)))))))))
    (pss_one (ps_ret (pv 4))))))), ?_⟩)
  · obtain ⟨c, da, bs, p, deep, rfl, _⟩ := h
    rfl
  · obtain ⟨c, da, bs, p, deep, rfl, r, kn, ks⟩ := h
    obtain ⟨dx, hc⟩ := id r.cur
    have le := r.le
    refine ⟨_, rfl, c, CC, dx, _, _, rfl, hc, T.clC, T.cAt, cF_at da p, ?_⟩
    refine ⟨_, rfl, c, dx, _, rfl, hc, by rfl, ⟨c, da, bs, p, rfl, r, fun hn => ?_, fun x hx H1 hc1 k1 => ?_⟩⟩
    · have : mHead deep (bs.drop p) = none := by
        rw [List.drop_eq_nil_of_le (List.getElem?_eq_none_iff.mp hn)]
        rfl
      exact kn this
    obtain ⟨hlt, hxe⟩ := List.getElem?_eq_some_iff.mp hx
    have hd : bs.drop p = x :: bs.drop (p + 1) := by rw [List.drop_eq_getElem_cons hlt, hxe]
    rw [hd, mHead_cons] at kn ks
    have r1 : Rdr K CC H1 c da bs (p + 1) := r.on k1 r.cur.isIns hc1 (by omega)
    refine ⟨_, rfl, _, _, rfl, rfl, _, rfl, ?_⟩
    refine idc (fun g => ?_) (fun g => ?_)
    · exact iteT ⟨_, rfl, _, rfl, fun d hd => kn (if_pos (.inl (by omega))) d _ (k1.new' hd)⟩
    refine ⟨_, rfl, _, _, rfl, rfl, _, rfl, ?_⟩
    refine idc (fun g1 => ?_) (fun g1 => ?_)
    · exact ⟨_, rfl, _, rfl, fun d hd => kn (if_pos (.inr (by omega))) d _ (k1.new' hd)⟩
    rw [if_neg (by omega)] at kn ks
    -- the Value
    refine ⟨_, rfl, _, rfl, fun v dv nv ndv nev => ⟨v, dv, x.toNat, p, rfl, upd_same, fun i H2 fr k2 => ?_⟩⟩
    have hcv : c ≠ v := fun z => by
      obtain ⟨dx1, ec1⟩ := hc1
      rw [z, nv] at ec1; cases ec1
    have hH1 : ∀ b, H b = none → b ≠ c → True := fun _ _ _ => trivial
    have free : ∀ {b : Addr}, b ≠ c → H1 b = none → H b = none := fun {b} n e => by
      cases q : H b with
      | none => rfl
      | some o => rw [k1 b o q (fun z => n (one_in z))] at e; cases e
    have nvH : H v = none := free (Ne.symm hcv) nv
    have k12 : Kp [c] H H2 := fun b o e n => by
      have e1 := k1 b o e n
      have b1 : b ≠ v := ne_of_none e1 nv
      have b2 : b ≠ dv := ne_of_none e1 ndv
      exact k2 b o (by rw [upd_ne b1, upd_ne b2]; exact e1) fun z => b1 (one_in z)
    have upH : ∀ {b : Addr}, (upd (upd H1 dv (.own v)) v (.ins CV dv [])) b = none → b ≠ v ∧ b ≠ dv ∧ H1 b = none := fun {b} e => by
      have b1 : b ≠ v := fun z => by rw [z, upd_same] at e; cases e
      rw [upd_ne b1] at e
      have b2 : b ≠ dv := fun z => by rw [z, upd_same] at e; cases e
      rw [upd_ne b2] at e
      exact ⟨b1, b2, e⟩
    obtain ⟨dx1, ec1⟩ := id hc1
    have hc2 : CurAt CC H2 c da (p + 1) := ⟨dx1, k2 _ _ (by rw [upd_ne hcv, upd_ne (ne_of_none ec1 ndv)]; exact ec1) fun z => hcv (one_in z)⟩
    have hdata2 : SqL K H2 da (bV bs) := by
      have hd1 := r1.data
      rcases hd1 with (h | ⟨o, h⟩) | h
      · exact .inl (.inl (k2 _ _ (by rw [upd_ne (ne_of_none h nv), upd_ne (ne_of_none h ndv)]; exact h) fun z => ne_of_none h nv (one_in z)))
      · exact .inl (.inr ⟨o, k2 _ _ (by rw [upd_ne (ne_of_none h nv), upd_ne (ne_of_none h ndv)]; exact h) fun z => ne_of_none h nv (one_in z)⟩)
      · exact .inr h
    have r2 : Rdr K CC H2 c da bs (p + 1) := ⟨hc2, hdata2, r.len, by omega⟩
    obtain ⟨dv', ev⟩ := id fr.obj
    have xcl := upH fr.ncl
    have xnl := upH fr.nnl
    have xml := upH fr.nml
    have cclr : ∀ {b : Addr} {xs : List V}, H2 b = some (.lst xs) → b ≠ c ∧ b ≠ v := fun {b xs} e => by
      obtain ⟨dx2, e2⟩ := hc2
      exact ⟨fun z => (by rw [z, e2] at e; cases e), fun z => (by rw [z, ev] at e; cases e)⟩
    have fcl : H i.cl = none := free (cclr fr.cl).1 xcl.2.2
    have fnl : H i.nl = none := free (cclr fr.nl).1 xnl.2.2
    have fml : H i.ml = none := free (cclr fr.ml).1 xml.2.2
    have brk2 : mRest x.toNat (bs.drop (p + 1)) = none → Brk CB [c, v] H2 E := fun hn d H3 k3 => kn (by rw [hn]; rfl) d H3 (Kp.drop (S := []) k12 nvH k3)
    -- what the five ways leave
    have fin : ∀ (many : Nat) (codes : Sw.Bytes) (u : Nat), mRest x.toNat (bs.drop (p + 1)) = some (many, codes, u) → ∀ (H3 : Hp) (i' : VI), CurAt CC H3 c da (p + 1 + u) → VObj CV H3 v i' → i'.tag = x.toNat → i'.place = p → i'.many = many → i'.nl = i.nl → i'.ml = i.ml →
        ((i'.cl = i.cl ∧ codes = []) ∨ (H2 i'.cl = none ∧ H3 i'.cl = some (.lst (bV codes)))) → Kp [c, v] H2 H3 → Q (.ref v) H3 := by
      intro many codes u hm H3 i' hc3 hv3 t1 t2 t3 t4 t5 t6 k3
      have keepL : ∀ {b : Addr} {xs : List V}, H2 b = some (.lst xs) → H3 b = some (.lst xs) := fun {b xs} e => k3 _ _ e fun z => by
        have := cclr e
        rcases List.mem_cons.mp z with z | z
        · exact this.1 z
        · exact this.2 (one_in z)
      refine ks x.toNat many codes (u + 1) (by rw [hm]; rfl) H3 v i' (by rw [show p + (u + 1) = p + 1 + u by omega]; exact hc3) ⟨hv3, t1, t2, t3, ?_, by rw [t4]; exact keepL fr.nl, by rw [t5]; exact keepL fr.ml, nvH, ?_, by rw [t4]; exact fnl, by rw [t5]; exact fml, ?_⟩ (Kp.drop (S := []) k12 nvH k3)
      · rcases t6 with ⟨e1, e2⟩ | ⟨_, e2⟩
        · rw [e1, e2]; exact keepL fr.cl
        · exact e2
      · rcases t6 with ⟨e1, _⟩ | ⟨e1, e2⟩
        · rw [e1]; exact fcl
        · cases q : H i'.cl with
          | none => rfl
          | some o =>
            have hne : i'.cl ≠ c := fun z => by obtain ⟨dx2, e3⟩ := hc2; rw [z, e3] at e1; cases e1
            rw [k12 _ _ q (fun z => hne (one_in z))] at e1
            cases e1
      · have nd := fr.nd
        rcases t6 with ⟨e1, _⟩ | ⟨e1, e2⟩
        · rw [e1, t4, t5]
          refine List.nodup_cons.mpr ⟨fun z => ?_, nd⟩
          rcases List.mem_cons.mp z with z | z
          · exact xcl.1 z.symm
          · rcases List.mem_cons.mp z with z | z
            · exact xnl.1 z.symm
            · exact xml.1 (one_in z).symm
        · rw [t4, t5]
          have n1 : i'.cl ≠ i.nl := fun z => by rw [z, fr.nl] at e1; cases e1
          have n2 : i'.cl ≠ i.ml := fun z => by rw [z, fr.ml] at e1; cases e1
          have n3 : i'.cl ≠ v := fun z => by rw [z, ev] at e1; cases e1
          have n4 : i.nl ≠ i.ml := fun z => by
            have := (List.nodup_cons.mp (List.nodup_cons.mp nd).2).1
            exact this (by rw [z]; exact List.mem_singleton.mpr rfl)
          simp [n1, n2, Ne.symm n3, n4, Ne.symm xnl.1, Ne.symm xml.1]
    have eqc : ∀ (n : Nat) {A B : Prop}, (x.toNat = n → A) → (x.toNat ≠ n → B) → if decide (V.int (x.toNat : Nat) = V.int (n : Nat)) = true then A else B := fun n {A B} hA hB => by
      refine idc (fun e => hA ?_) (fun e => hB fun z => e (by rw [z]))
      have := V.int.inj e
      omega
    refine ⟨rfl, _, rfl, rfl, _, rfl, eqc 2 (fun t => ?_) (fun t2 => ?_)⟩
    · refine ⟨_, rfl, _, rfl, c, v, da, bs, p + 1, i, rfl, hcv, r2, fr.obj, fun hn => brk2 (by rw [t]; show (mNum _).map _ = none; rw [hn]; rfl), fun u hu H3 low hc3 hv3 k3 => ?_⟩
      exact ⟨_, rfl, fin 0 [] u (by rw [t]; show (mNum _).map _ = _; rw [hu]; rfl) H3 _ hc3 hv3 fr.tag fr.place fr.many rfl rfl (.inl ⟨rfl, rfl⟩) k3⟩
    · have codes : (x.toNat = 3 ∨ x.toNat = 4) → tDrop (tCall (spCodes K CB CC CV) [] E (tCons (tVar 0) (tCons (tVar 4) tNil))) { nx := fun σ' H' => tRet (tVar 4) { nx := fun _ H' => Q .non H', rt := Q } σ' H', rt := Q } [some (.ref c), some (.int deep), some (.int p), some (.int (x.toNat : Nat)), some (.ref v)] H2 := fun t34 => by
        have hrest : mRest x.toNat (bs.drop (p + 1)) = (mCodes (decide (x.toNat = 4)) (bs.drop (p + 1))).map fun y => (0, y.1, y.2) := by
          rcases t34 with t | t
          · rw [t]; rfl
          · rw [t]; rfl
        refine ⟨_, rfl, _, rfl, c, v, da, bs, p + 1, i, rfl, hcv, r2, fr.obj, fun hn => brk2 ?_, fun cc u hu H3 j hc3 hv3 hj1 hj2 k3 => ?_⟩
        · rw [fr.tag] at hn
          rw [hrest, hn]; rfl
        · rw [fr.tag] at hu hj1 hj2
          refine ⟨_, rfl, fin 0 cc u (by rw [hrest, hu]; rfl) H3 _ hc3 hv3 fr.tag fr.place fr.many rfl rfl ?_ k3⟩
          by_cases t4 : x.toNat = 4
          · exact .inr (hj1 t4)
          · refine .inl ⟨hj2 t4, ?_⟩
            have := mRest_used (tag := x.toNat) (r := bs.drop (p + 1)) (many := 0) (u := u) (c := cc) (by rw [hrest, hu]; rfl)
            exact this.2.2.2.2 t4
      refine ⟨_, rfl, rfl, _, rfl, eqc 3 (fun t => iteT (codes (.inl t))) (fun t3 => ?_)⟩
      refine ⟨_, rfl, rfl, _, rfl, eqc 4 (fun t => codes (.inr t)) (fun t4 => ?_)⟩
      have rows : (x.toNat = 5 ∨ x.toNat = 6) → sFld K (tVar 4) (tMeth CC "varying" (spVarying K CB CC) [] E (tVar 0) tNil) "many" { nx := fun σ' H' => tRet (tVar 4) { nx := fun _ H' => Q .non H', rt := Q } σ' H', rt := Q } [some (.ref c), some (.int deep), some (.int p), some (.int (x.toNat : Nat)), some (.ref v)] H2 := fun t56 => by
        have hrest : mRest x.toNat (bs.drop (p + 1)) = (mVary (bs.drop (p + 1))).map fun y => (y.1, [], y.2) := by
          rcases t56 with t | t
          · rw [t]; rfl
          · rw [t]; rfl
        obtain ⟨dx2, ec2⟩ := id hc2
        refine ⟨_, rfl, c, dx2, _, rfl, ec2, by rfl, c, da, bs, p + 1, rfl, r2, fun hn => ?_, fun n u hu H3 hc3 k3 => ?_⟩
        · exact fun d H3 k3 => brk2 (by rw [hrest, hn]; rfl) d H3 k3.two
        · have hv3 := fr.obj.on k3 hcv
          obtain ⟨dv3, ev3⟩ := id hv3
          refine ⟨_, rfl, v, CV, dv3, _, rfl, ev3, T.clV, T.vMany, vF_len i, ?_⟩
          rw [put_many]
          obtain ⟨dx3, ec3⟩ := id hc3
          exact ⟨_, rfl, fin n [] u (by rw [hrest, hu]; rfl) _ _ ⟨dx3, (upd_ne hcv).trans ec3⟩ ⟨dv3, upd_same⟩ fr.tag fr.place rfl rfl rfl (.inl ⟨rfl, rfl⟩) (k3.two.write' (by simp))⟩
      refine ⟨_, rfl, rfl, _, rfl, eqc 5 (fun t => iteT (rows (.inl t))) (fun t5 => ?_)⟩
      refine ⟨_, rfl, rfl, _, rfl, eqc 6 (fun t => rows (.inr t)) (fun t6 => ?_)⟩
      have spans : ∀ n : Nat, mRest x.toNat (bs.drop (p + 1)) = (mSpan n (bs.drop (p + 1))).map (fun u => (0, [], u)) → tDrop (tMeth CC "span" (spSpan K CB CC) [] E (tVar 0) (tCons (tC (.int n)) tNil)) { nx := fun σ' H' => tRet (tVar 4) { nx := fun _ H' => Q .non H', rt := Q } σ' H', rt := Q } [some (.ref c), some (.int deep), some (.int p), some (.int (x.toNat : Nat)), some (.ref v)] H2 := fun n hrest => by
        obtain ⟨dx2, ec2⟩ := id hc2
        refine ⟨_, rfl, c, dx2, _, rfl, ec2, by rfl, c, da, bs, p + 1, n, rfl, r2, fun hn => ?_, fun hn H3 hc3 k3 => ?_⟩
        · exact fun d H3 k3 => brk2 (by rw [hrest]; unfold mSpan; rw [if_pos (by rw [List.length_drop]; exact hn)]; rfl) d H3 k3.two
        · exact ⟨_, rfl, fin 0 [] n (by rw [hrest]; unfold mSpan; rw [if_neg (by rw [List.length_drop]; exact hn)]; rfl) H3 i hc3 (fr.obj.on k3 hcv) fr.tag fr.place fr.many rfl rfl (.inl ⟨rfl, rfl⟩) k3.two⟩
      refine ⟨_, rfl, rfl, _, rfl, eqc 7 (fun t => spans 8 (by rw [t]; rfl)) (fun t7 => ?_)⟩
      refine ⟨_, rfl, rfl, _, rfl, eqc 8 (fun t => spans 32 (by rw [t]; rfl)) (fun t8 => ?_)⟩
      refine ⟨_, rfl, fin 0 [] 0 ?_ H2 i hc2 fr.obj fr.tag fr.place fr.many rfl rfl (.inl ⟨rfl, rfl⟩) (Kp.refl _ _)⟩
      unfold mRest
      rw [if_neg t2, if_neg t3, if_neg t4, if_neg (by omega), if_neg t7, if_neg t8]
end
end Ag

set_option maxRecDepth 100000
set_option maxHeartbeats 2000000
namespace Ag
open PySem PySem.Spec PyProof.Rows L2
/-! # A value that's read, on the heap -/
mutual
/-- the value at an address, all its parts where they may lie -/
def TA (CV : Addr) (D : Addr → Prop) (H : Hp) : PT → Addr → Prop
  | .mk tag place many codes names kids, a => ∃ (i : VI) (ks : List Addr), VObj CV H a i ∧ i.tag = tag ∧ i.place = place ∧ i.many = many ∧ H i.cl = some (.lst (bV codes)) ∧ H i.nl = some (.lst (nmV names)) ∧ H i.ml = some (.lst (ks.map V.ref)) ∧
    D a ∧ D i.cl ∧ D i.nl ∧ D i.ml ∧ TAs CV D H kids ks
def TAs (CV : Addr) (D : Addr → Prop) (H : Hp) : List PT → List Addr → Prop
  | [], ks => ks = []
  | t :: r, ks => ∃ a as, ks = a :: as ∧ TA CV D H t a ∧ TAs CV D H r as
end
mutual
theorem TA.on {CV : Addr} {D D' : Addr → Prop} {H H' : Hp} (k : ∀ b o, D b → H b = some o → H' b = some o ∧ D' b) : ∀ (t : PT) (a : Addr), TA CV D H t a → TA CV D' H' t a
  | .mk tag place many codes names kids, a, h => by
    obtain ⟨i, ks, ⟨dx, ho⟩, h1, h2, h3, h4, h5, h6, h7, h8, h9, h10, h11⟩ := h
    exact ⟨i, ks, ⟨dx, (k _ _ h7 ho).1⟩, h1, h2, h3, (k _ _ h8 h4).1, (k _ _ h9 h5).1, (k _ _ h10 h6).1, (k _ _ h7 ho).2, (k _ _ h8 h4).2, (k _ _ h9 h5).2, (k _ _ h10 h6).2, TAs.on k kids ks h11⟩
theorem TAs.on {CV : Addr} {D D' : Addr → Prop} {H H' : Hp} (k : ∀ b o, D b → H b = some o → H' b = some o ∧ D' b) : ∀ (t : List PT) (a : List Addr), TAs CV D H t a → TAs CV D' H' t a
  | [], _, h => h
  | t :: r, _, ⟨a, as, e, h1, h2⟩ => ⟨a, as, e, TA.on k t a h1, TAs.on k r as h2⟩
end
theorem TAs.length {CV : Addr} {D : Addr → Prop} {H : Hp} : ∀ {t : List PT} {a : List Addr}, TAs CV D H t a → a.length = t.length
  | [], _, h => by rw [show _ = [] from h]; rfl
  | t :: r, _, ⟨a, as, e, h1, h2⟩ => by rw [e, List.length_cons, List.length_cons, TAs.length h2]
theorem TAs.snoc {CV : Addr} {D : Addr → Prop} {H : Hp} {u : PT} {b : Addr} (h : TA CV D H u b) : ∀ {t : List PT} {a : List Addr}, TAs CV D H t a → TAs CV D H (t ++ [u]) (a ++ [b])
  | [], _, e => by rw [show _ = [] from e]; exact ⟨b, [], rfl, h, rfl⟩
  | t :: r, _, ⟨a, as, e, h1, h2⟩ => by rw [e]; exact ⟨a, as ++ [b], rfl, h1, TAs.snoc h h2⟩
/-- an open value -/
structure AF where
  a : Addr
  i : VI
  ks : List Addr
def AF.addrs (f : AF) : List Addr := [f.a, f.i.cl, f.i.nl, f.i.ml]
structure FrAt (CV : Addr) (D : Addr → Prop) (H : Hp) (F : Fm) (f : AF) (xs : List Addr) : Prop where
  obj : VObj CV H f.a f.i
  tag : f.i.tag = F.tag
  place : f.i.place = F.place
  many : f.i.many = F.many
  cl : H f.i.cl = some (.lst (bV F.codes))
  nl : H f.i.nl = some (.lst (nmV F.names))
  ml : H f.i.ml = some (.lst ((f.ks ++ xs).map V.ref))
  kids : TAs CV D H F.kids f.ks
theorem FrAt.on {CV : Addr} {D D' : Addr → Prop} {H H' : Hp} {F : Fm} {f : AF} {xs : List Addr} (h : FrAt CV D H F f xs) (k : ∀ b o, D b → H b = some o → H' b = some o ∧ D' b) (k2 : ∀ b ∈ f.addrs, ∀ o, H b = some o → H' b = some o) : FrAt CV D' H' F f xs :=
  ⟨by obtain ⟨dx, e⟩ := h.obj; exact ⟨dx, k2 _ (by simp [AF.addrs]) _ e⟩, h.tag, h.place, h.many, k2 _ (by simp [AF.addrs]) _ h.cl, k2 _ (by simp [AF.addrs]) _ h.nl, k2 _ (by simp [AF.addrs]) _ h.ml, TAs.on k _ _ h.kids⟩
def Stk (CV : Addr) (D : Addr → Prop) (H : Hp) : List Fm → List AF → List Addr → Prop
  | [], [], _ => True
  | F :: fs, f :: gs, xs => FrAt CV D H F f xs ∧ Stk CV D H fs gs [f.a]
  | _, _, _ => False
def opens (gs : List AF) : List Addr := gs.flatMap AF.addrs
theorem Stk.on {CV : Addr} {D D' : Addr → Prop} {H H' : Hp} (k : ∀ b o, D b → H b = some o → H' b = some o ∧ D' b) : ∀ {fs : List Fm} {gs : List AF} {xs : List Addr}, (∀ b ∈ opens gs, ∀ o, H b = some o → H' b = some o) → Stk CV D H fs gs xs → Stk CV D' H' fs gs xs
  | [], [], _, _, _ => trivial
  | F :: fs, f :: gs, xs, k2, ⟨h1, h2⟩ => ⟨h1.on k fun b hb o e => k2 b (by unfold opens; rw [List.flatMap_cons]; exact List.mem_append_left _ hb) o e,
      Stk.on k (fun b hb o e => k2 b (by unfold opens at hb ⊢; rw [List.flatMap_cons]; exact List.mem_append_right _ hb) o e) h2⟩
  | [], _ :: _, _, _, h => h.elim
  | _ :: _, [], _, _, h => h.elim
theorem Stk.length {CV : Addr} {D : Addr → Prop} {H : Hp} : ∀ {fs : List Fm} {gs : List AF} {xs : List Addr}, Stk CV D H fs gs xs → gs.length = fs.length
  | [], [], _, _ => rfl
  | F :: fs, f :: gs, xs, ⟨h1, h2⟩ => by rw [List.length_cons, List.length_cons, Stk.length h2]
  | [], _ :: _, _, h => h.elim
  | _ :: _, [], _, h => h.elim
def wt (fs : List Fm) : Nat := (fs.map fun F => F.kids.length + 1).sum
theorem wt_cons (F : Fm) (fs : List Fm) : wt (F :: fs) = F.kids.length + 1 + wt fs := by unfold wt; rw [List.map_cons, List.sum_cons]
theorem wt_len : ∀ fs : List Fm, fs.length ≤ wt fs
  | [] => Nat.le_refl _
  | F :: fs => by have := wt_len fs; rw [wt_cons, List.length_cons]; omega
theorem opens_cons (f : AF) (gs : List AF) : opens (f :: gs) = f.addrs ++ opens gs := by unfold opens; rw [List.flatMap_cons]
theorem Same.w {H0 H : Hp} {b : Addr} {o : HO} (s : Same H0 H) (h : H0 b = none) : Same H0 (upd H b o) := fun c u e => by rw [upd_ne (ne_of_none e h)]; exact s c u e
theorem Same.kp {H0 H H' : Hp} {S : List Addr} (s : Same H0 H) (k : Kp S H H') (h : ∀ b ∈ S, H0 b = none) : Same H0 H' := fun c u e => k c u (s c u e) fun z => by rw [h c z] at e; cases e
theorem Same.none {H0 H : Hp} {b : Addr} (s : Same H0 H) (h : H b = none) : H0 b = none := by
  cases e : H0 b with
  | none => rfl
  | some o => rw [s b o e] at h; cases h
end Ag

set_option maxRecDepth 100000
set_option maxHeartbeats 2000000
namespace Ag
open PySem PySem.Spec PyProof.Rows L2
/-! ## a turn of the machine -/
theorem ends_inv {bs : Sw.Bytes} {m : Nat} {F : Fm} {fs : List Fm} {p : Nat} {o : Option (PT × Nat)} (h : Ends bs m (F :: fs) p o) : ∃ m', m = m' + 1 ∧
    ((F.kids.length = F.many ∧ ((fs = [] ∧ o = some (F.close, p)) ∨ ∃ G gs, fs = G :: gs ∧ Ends bs m' (G.add F.close :: gs) p o)) ∨
     (F.kids.length ≠ F.many ∧ ((nameStep bs F p = none ∧ o = none) ∨ ∃ F' u, nameStep bs F p = some (F', u) ∧
       ((mHead (fs.length + 2) (bs.drop (p + u)) = none ∧ o = none) ∨ ∃ tag many codes u', mHead (fs.length + 2) (bs.drop (p + u)) = some (tag, many, codes, u') ∧ Ends bs m' (⟨tag, p + u, many, codes, [], []⟩ :: F' :: fs) (p + u + u') o)))) := by
  cases m with
  | zero => exact h.elim
  | succ m' =>
    refine ⟨m', rfl, ?_⟩
    have h' : (match step bs (F :: fs) p with
      | .fail => o = none
      | .done t q => o = some (t, q)
      | .go fs' q => Ends bs m' fs' q o) := h
    by_cases hk : F.kids.length = F.many
    · refine .inl ⟨hk, ?_⟩
      cases fs with
      | nil =>
        have e : step bs [F] p = .done F.close p := by
          show (if F.kids.length = F.many then _ else _) = _
          rw [if_pos hk]
        rw [e] at h'
        exact .inl ⟨rfl, h'⟩
      | cons G gs =>
        have e : step bs (F :: G :: gs) p = .go (G.add F.close :: gs) p := by
          show (if F.kids.length = F.many then _ else _) = _
          rw [if_pos hk]
        rw [e] at h'
        exact .inr ⟨G, gs, rfl, h'⟩
    · have e0 : step bs (F :: fs) p = match nameStep bs F p with
          | none => .fail
          | some (F', u) => match mHead (fs.length + 2) (bs.drop (p + u)) with
            | none => .fail
            | some (tag, many, codes, u') => .go (⟨tag, p + u, many, codes, [], []⟩ :: F' :: fs) (p + u + u') := by
        show (if F.kids.length = F.many then _ else _) = _
        exact (if_neg hk).trans rfl
      rw [e0] at h'
      refine .inr ⟨hk, ?_⟩
      cases e : nameStep bs F p with
      | none => rw [e] at h'; exact .inl ⟨rfl, h'⟩
      | some x =>
        obtain ⟨F', u⟩ := x
        rw [e] at h'
        refine .inr ⟨F', u, rfl, ?_⟩
        cases e2 : mHead (fs.length + 2) (bs.drop (p + u)) with
        | none =>
          simp only [e2] at h'
          exact .inl ⟨rfl, h'⟩
        | some y =>
          obtain ⟨tag, many, codes, u'⟩ := y
          simp only [e2] at h'
          exact .inr ⟨tag, many, codes, u', rfl, h'⟩
/-! ## decode's loop -/
def DD (H0 : Hp) (c pa : Addr) (gs : List AF) : Addr → Prop := fun b => H0 b = none ∧ b ∉ c :: pa :: opens gs
def popG (f : AF) : List AF → List AF
  | [] => []
  | g :: gs => { g with ks := g.ks ++ [f.a] } :: gs
structure DI (CV CC : Addr) (H0 : Hp) (c da pa root : Addr) (bs : Sw.Bytes) (o : Option (PT × Nat)) (m : Nat) (H : Hp) (p : Nat) (fs : List Fm) (gs : List AF) : Prop where
  cur : CurAt CC H c da p
  le : p ≤ bs.length
  path : H pa = some (.lst ((gs.map AF.a).reverse.map V.ref))
  same : Same H0 H
  new : ∀ b ∈ c :: pa :: opens gs, H0 b = none
  nd : (c :: pa :: opens gs).Nodup
  stk : Stk CV (DD H0 c pa gs) H fs gs []
  wt : wt fs ≤ p
  nam : ∀ F ∈ fs, F.names.length ≤ p
  ends : fs ≠ [] → Ends bs m fs p o ∧ (gs.map AF.a).getLast? = some root
  done : fs = [] → ∃ t, o = some (t, p) ∧ TA CV (DD H0 c pa gs) H t root
theorem DI.pop {CV CC : Addr} {H0 : Hp} {c da pa root : Addr} {bs : Sw.Bytes} {o : Option (PT × Nat)} {m : Nat} {H : Hp} {p : Nat} {F : Fm} {fs : List Fm} {f : AF} {gs : List AF} (d : DI CV CC H0 c da pa root bs o m H p (F :: fs) (f :: gs))
    (hk : F.kids.length = F.many) : ∃ m' fs', m' < m ∧ DI CV CC H0 c da pa root bs o m' (upd H pa (.lst (((f :: gs).map AF.a).reverse.map V.ref).dropLast)) p fs' (popG f gs) := by
  obtain ⟨he, hroot⟩ := d.ends (by simp)
  obtain ⟨m', rfl, hcase⟩ := ends_inv he
  rcases hcase with ⟨_, hx⟩ | ⟨hk', _⟩
  rotate_left
  · exact absurd hk hk'
  obtain ⟨h1, h2⟩ := d.stk
  have hpath : (((f :: gs).map AF.a).reverse.map V.ref).dropLast = (gs.map AF.a).reverse.map V.ref := by
    rw [List.map_cons, List.reverse_cons, List.map_append, List.map_singleton, List.dropLast_concat]
  rw [hpath]
  have nd := d.nd
  rw [opens_cons] at nd
  have hcp : c ≠ pa := fun z => (List.nodup_cons.mp nd).1 (by rw [z]; exact List.mem_cons_self)
  have npa : ∀ b ∈ f.addrs ++ opens gs, b ≠ pa := fun b hb z => (List.nodup_cons.mp (List.nodup_cons.mp nd).2).1 (by rw [← z]; exact hb)
  have nc : ∀ b ∈ f.addrs ++ opens gs, b ≠ c := fun b hb z => (List.nodup_cons.mp nd).1 (by rw [← z]; exact List.mem_cons_of_mem _ hb)
  have ndo : (f.addrs ++ opens gs).Nodup := (List.nodup_cons.mp (List.nodup_cons.mp nd).2).2
  have hpaH : H0 pa = none := d.new _ (by simp)
  have cur' : CurAt CC (upd H pa (.lst ((gs.map AF.a).reverse.map V.ref))) c da p := by
    obtain ⟨dx, e⟩ := d.cur
    exact ⟨dx, (upd_ne hcp).trans e⟩
  have same' : Same H0 (upd H pa (.lst ((gs.map AF.a).reverse.map V.ref))) := Same.w d.same hpaH
  -- the value that closes
  have clo : ∀ gs2 : List AF, (∀ b, b ∈ opens gs2 → b ∈ opens gs) → TA CV (DD H0 c pa gs2) (upd H pa (.lst ((gs.map AF.a).reverse.map V.ref))) F.close f.a := by
    intro gs2 hgs2
    have inD : ∀ b ∈ f.addrs, DD H0 c pa gs2 b := fun b hb => ⟨d.new _ (by rw [opens_cons]; exact List.mem_cons_of_mem _ (List.mem_cons_of_mem _ (List.mem_append_left _ hb))), fun z => by
      rcases List.mem_cons.mp z with z | z
      · exact nc b (List.mem_append_left _ hb) z
      · rcases List.mem_cons.mp z with z | z
        · exact npa b (List.mem_append_left _ hb) z
        · exact (List.nodup_append.mp ndo).2.2 b hb b (hgs2 b z) rfl⟩
    have up : ∀ b ∈ f.addrs, ∀ u : HO, H b = some u → upd H pa (.lst ((gs.map AF.a).reverse.map V.ref)) b = some u := fun b hb u e => (upd_ne (npa b (List.mem_append_left _ hb))).trans e
    obtain ⟨dx, eo⟩ := h1.obj
    refine ⟨f.i, f.ks, ⟨dx, up _ (by simp [AF.addrs]) _ eo⟩, h1.tag, h1.place, h1.many, up _ (by simp [AF.addrs]) _ h1.cl, up _ (by simp [AF.addrs]) _ h1.nl, up _ (by simp [AF.addrs]) _ ?_, inD _ (by simp [AF.addrs]), inD _ (by simp [AF.addrs]), inD _ (by simp [AF.addrs]), inD _ (by simp [AF.addrs]), ?_⟩
    · have := h1.ml
      rw [List.append_nil] at this
      exact this
    · refine TAs.on (fun b u hb e => ?_) _ _ h1.kids
      refine ⟨(upd_ne fun z => hb.2 (by rw [z]; simp)).trans e, hb.1, fun z => hb.2 ?_⟩
      rcases List.mem_cons.mp z with z | z
      · rw [z]; simp
      · rcases List.mem_cons.mp z with z | z
        · rw [z]; simp
        · rw [opens_cons]
          exact List.mem_cons_of_mem _ (List.mem_cons_of_mem _ (List.mem_append_right _ (hgs2 b z)))
  rcases hx with ⟨rfl, ho⟩ | ⟨G, fs', rfl, hm⟩
  · cases gs with
    | cons g gs' => exact h2.elim
    | nil =>
      have er : f.a = root := Option.some.inj hroot
      subst er
      refine ⟨m', [], by omega, cur', d.le, upd_same, same', fun b hb => d.new b ?_, ?_, trivial, by show 0 ≤ p; omega, fun F hF => (by cases hF), fun z => absurd rfl z, fun _ => ⟨F.close, ho, clo [] fun b hb => hb⟩⟩
      · rcases List.mem_cons.mp hb with hb | hb
        · rw [hb]; simp
        · rcases List.mem_cons.mp hb with hb | hb
          · rw [hb]; simp
          · cases hb
      · show ([c, pa]).Nodup
        simp [hcp]
  · cases gs with
    | nil => exact h2.elim
    | cons g gs' =>
      obtain ⟨h3, h4⟩ := h2
      have eop : opens ({ g with ks := g.ks ++ [f.a] } :: gs') = opens (g :: gs') := by rw [opens_cons, opens_cons]; rfl
      have sub : ∀ b, b ∈ c :: pa :: opens (g :: gs') → b ∈ c :: pa :: (f.addrs ++ opens (g :: gs')) := fun b hb => by
        rcases List.mem_cons.mp hb with hb | hb
        · rw [hb]; simp
        · rcases List.mem_cons.mp hb with hb | hb
          · rw [hb]; simp
          · exact List.mem_cons_of_mem _ (List.mem_cons_of_mem _ (List.mem_append_right _ hb))
      have clo' := clo ({ g with ks := g.ks ++ [f.a] } :: gs') (fun b hb => by rw [eop] at hb; exact hb)
      have tr : ∀ b u, DD H0 c pa (f :: g :: gs') b → H b = some u → upd H pa (.lst (((g :: gs').map AF.a).reverse.map V.ref)) b = some u ∧ DD H0 c pa ({ g with ks := g.ks ++ [f.a] } :: gs') b := fun b u hb e =>
        ⟨(upd_ne fun z => hb.2 (by rw [z]; simp)).trans e, hb.1, fun z => hb.2 (by rw [eop] at z; rw [opens_cons]; exact sub b z)⟩
      have w1 := d.wt
      rw [wt_cons, wt_cons] at w1
      refine ⟨m', G.add F.close :: fs', by omega, cur', d.le, ?_, same', fun b hb => d.new b ?_, ?_, ⟨⟨?_, h3.tag, h3.place, h3.many, ?_, ?_, ?_, ?_⟩, ?_⟩, ?_, ?_, fun _ => ⟨hm, ?_⟩, fun z => (by cases z)⟩
      · rw [upd_same]; rfl
      · have hb : b ∈ c :: pa :: opens ({ g with ks := g.ks ++ [f.a] } :: gs') := hb
        rw [eop] at hb; rw [opens_cons]; exact sub b hb
      · show (c :: pa :: opens ({ g with ks := g.ks ++ [f.a] } :: gs')).Nodup
        rw [eop]
        have := ndo
        refine List.nodup_cons.mpr ⟨fun z => ?_, List.nodup_cons.mpr ⟨fun z => ?_, (List.nodup_append.mp ndo).2.1⟩⟩
        · rcases List.mem_cons.mp z with z | z
          · exact hcp z
          · exact nc c (List.mem_append_right _ z) rfl
        · exact npa pa (List.mem_append_right _ z) rfl
      · obtain ⟨dx, e⟩ := h3.obj
        exact ⟨dx, (upd_ne (npa _ (by rw [opens_cons]; simp [AF.addrs]))).trans e⟩
      · exact (upd_ne (npa _ (by rw [opens_cons]; simp [AF.addrs]))).trans h3.cl
      · exact (upd_ne (npa _ (by rw [opens_cons]; simp [AF.addrs]))).trans h3.nl
      · show _ = some (HO.lst ((g.ks ++ [f.a] ++ []).map V.ref))
        rw [List.append_nil]
        exact (upd_ne (npa _ (by rw [opens_cons]; simp [AF.addrs]))).trans h3.ml
      · exact TAs.snoc clo' (TAs.on tr _ _ h3.kids)
      · exact Stk.on tr (fun b hb u e => (upd_ne (npa b (by rw [opens_cons]; exact List.mem_append_right _ (List.mem_append_right _ hb)))).trans e) h4
      · rw [wt_cons]
        show (G.kids ++ [F.close]).length + 1 + Ag.wt fs' ≤ p
        rw [List.length_append, List.length_singleton]
        omega
      · intro F2 hF2
        rcases List.mem_cons.mp hF2 with e | e
        · rw [e]; exact d.nam G (by simp)
        · exact d.nam F2 (by simp [e])
      · have := hroot
        rw [List.map_cons, List.map_cons, List.getLast?_cons_cons] at this
        exact this
end Ag

set_option maxRecDepth 100000
set_option maxHeartbeats 2000000
namespace Ag
open PySem PySem.Spec PyProof.Rows L2
structure DP (CV CC : Addr) (H0 : Hp) (c da pa : Addr) (bs : Sw.Bytes) (H : Hp) (p : Nat) (fs : List Fm) (gs : List AF) : Prop where
  cur : CurAt CC H c da p
  le : p ≤ bs.length
  path : H pa = some (.lst ((gs.map AF.a).reverse.map V.ref))
  same : Same H0 H
  new : ∀ b ∈ c :: pa :: opens gs, H0 b = none
  nd : (c :: pa :: opens gs).Nodup
  stk : Stk CV (DD H0 c pa gs) H fs gs []
  wt : wt fs ≤ p
  nam : ∀ F ∈ fs, F.names.length ≤ p
theorem DI.dp {CV CC : Addr} {H0 : Hp} {c da pa root : Addr} {bs : Sw.Bytes} {o : Option (PT × Nat)} {m : Nat} {H : Hp} {p : Nat} {fs : List Fm} {gs : List AF} (d : DI CV CC H0 c da pa root bs o m H p fs gs) : DP CV CC H0 c da pa bs H p fs gs :=
  ⟨d.cur, d.le, d.path, d.same, d.new, d.nd, d.stk, d.wt, d.nam⟩
theorem DP.di {CV CC : Addr} {H0 : Hp} {c da pa root : Addr} {bs : Sw.Bytes} {o : Option (PT × Nat)} {m : Nat} {H : Hp} {p : Nat} {F : Fm} {fs : List Fm} {gs : List AF} (d : DP CV CC H0 c da pa bs H p (F :: fs) gs) (e : Ends bs m (F :: fs) p o) (r : (gs.map AF.a).getLast? = some root) : DI CV CC H0 c da pa root bs o m H p (F :: fs) gs :=
  ⟨d.cur, d.le, d.path, d.same, d.new, d.nd, d.stk, d.wt, d.nam, fun _ => ⟨e, r⟩, fun z => by cases z⟩
theorem Stk.there {CV : Addr} {D : Addr → Prop} {H : Hp} : ∀ {fs : List Fm} {gs : List AF} {xs : List Addr}, Stk CV D H fs gs xs → ∀ b ∈ opens gs, ∃ o, H b = some o
  | [], [], _, _, b, hb => by cases hb
  | F :: fs, g :: gs, _, ⟨g1, g2⟩, b, hb => by
    rw [opens_cons] at hb
    rcases List.mem_append.mp hb with hb | hb
    · obtain ⟨dx, e⟩ := g1.obj
      simp only [AF.addrs, List.mem_cons, List.not_mem_nil, or_false] at hb
      rcases hb with rfl | rfl | rfl | rfl
      · exact ⟨_, e⟩
      · exact ⟨_, g1.cl⟩
      · exact ⟨_, g1.nl⟩
      · exact ⟨_, g1.ml⟩
    · exact Stk.there g2 b hb
  | [], _ :: _, _, h, _, _ => h.elim
  | _ :: _, [], _, h, _, _ => h.elim
/-- a name is read into the open record -/
theorem DP.name {CV CC : Addr} {H0 : Hp} {c da pa : Addr} {bs : Sw.Bytes} {H : Hp} {p u : Nat} {F : Fm} {fs : List Fm} {f : AF} {gs : List AF} (d : DP CV CC H0 c da pa bs H p (F :: fs) (f :: gs)) {m : Sw.Bytes} {H1 : Hp} {j : Addr}
    (hu : 1 ≤ u) (hl : p + u ≤ bs.length) (hc : CurAt CC H1 c da (p + u)) (hv : VObj CV H1 f.a { f.i with cl := j }) (hj : H j = none) (hj1 : H1 j = some (.lst (bV m))) (hn : H1 f.i.nl = some (.lst (nmV (F.names ++ [m])))) (k : Kp [c, f.a, f.i.nl] H H1) :
    DP CV CC H0 c da pa bs H1 (p + u) (F.named m :: fs) ({ f with i := { f.i with cl := j } } :: gs) := by
  obtain ⟨h1, h2⟩ := d.stk
  have nd := d.nd
  rw [opens_cons] at nd
  have hcp : c ≠ pa := fun z => (List.nodup_cons.mp nd).1 (by rw [z]; exact List.mem_cons_self)
  have npa : ∀ b ∈ f.addrs ++ opens gs, b ≠ pa := fun b hb z => (List.nodup_cons.mp (List.nodup_cons.mp nd).2).1 (by rw [← z]; exact hb)
  have nc : ∀ b ∈ f.addrs ++ opens gs, b ≠ c := fun b hb z => (List.nodup_cons.mp nd).1 (by rw [← z]; exact List.mem_cons_of_mem _ hb)
  have ndo : (f.addrs ++ opens gs).Nodup := (List.nodup_cons.mp (List.nodup_cons.mp nd).2).2
  have ndf : f.addrs.Nodup := (List.nodup_append.mp ndo).1
  have dis := (List.nodup_append.mp ndo).2.2
  have a1 : f.a ∈ f.addrs := by simp [AF.addrs]
  have a2 : f.i.cl ∈ f.addrs := by simp [AF.addrs]
  have a3 : f.i.nl ∈ f.addrs := by simp [AF.addrs]
  have a4 : f.i.ml ∈ f.addrs := by simp [AF.addrs]
  have hjH : H0 j = none := Same.none d.same hj
  have newA : ∀ b ∈ f.addrs, H0 b = none := fun b hb => d.new b (by rw [opens_cons]; exact List.mem_cons_of_mem _ (List.mem_cons_of_mem _ (List.mem_append_left _ hb)))
  have newO : ∀ b ∈ opens gs, H0 b = none := fun b hb => d.new b (by rw [opens_cons]; exact List.mem_cons_of_mem _ (List.mem_cons_of_mem _ (List.mem_append_right _ hb)))
  -- what was some stays away from j
  have notS : ∀ b, b ∉ ([c, f.a, f.i.nl] : List Addr) ↔ (b ≠ c ∧ b ≠ f.a ∧ b ≠ f.i.nl) := fun b => by simp
  have trk := Stk.there h2
  have jne : ∀ {b : Addr} {o : HO}, H b = some o → j ≠ b := fun e z => by rw [← z, hj] at e; cases e
  obtain ⟨dx, eo⟩ := h1.obj
  obtain ⟨dc, ec⟩ := d.cur
  have addrs' : ({ f with i := { f.i with cl := j } } : AF).addrs = [f.a, j, f.i.nl, f.i.ml] := rfl
  have tr : ∀ b u, DD H0 c pa (f :: gs) b → H b = some u → H1 b = some u ∧ DD H0 c pa ({ f with i := { f.i with cl := j } } :: gs) b := fun b u hb e => by
    have hb2 := hb.2
    rw [opens_cons] at hb2
    simp only [AF.addrs, List.cons_append, List.nil_append, List.mem_cons, not_or] at hb2
    refine ⟨k b u e ((notS b).mpr ⟨hb2.1, hb2.2.2.1, hb2.2.2.2.2.1⟩), hb.1, ?_⟩
    rw [opens_cons, addrs']
    simp only [List.cons_append, List.nil_append, List.mem_cons, not_or]
    exact ⟨hb2.1, hb2.2.1, hb2.2.2.1, Ne.symm (jne e), hb2.2.2.2.2.1, hb2.2.2.2.2.2⟩
  have w1 := d.wt
  rw [wt_cons] at w1
  refine ⟨hc, hl, k _ _ d.path ((notS pa).mpr ⟨Ne.symm hcp, Ne.symm (npa _ (List.mem_append_left _ a1)), Ne.symm (npa _ (List.mem_append_left _ a3))⟩), Same.kp d.same k ?_, ?_, ?_, ⟨⟨hv, h1.tag, h1.place, h1.many, hj1, hn, ?_, TAs.on tr _ _ h1.kids⟩, ?_⟩, ?_, ?_⟩
  · intro b hb
    simp only [List.mem_cons, List.not_mem_nil, or_false] at hb
    rcases hb with rfl | rfl | rfl
    · exact d.new _ (by simp)
    · exact newA _ a1
    · exact newA _ a3
  · intro b hb
    rw [opens_cons, addrs'] at hb
    simp only [List.cons_append, List.nil_append, List.mem_cons] at hb
    rcases hb with rfl | rfl | rfl | rfl | rfl | rfl | hb
    · exact d.new _ (by simp)
    · exact d.new _ (by simp)
    · exact newA _ a1
    · exact hjH
    · exact newA _ a3
    · exact newA _ a4
    · exact newO _ hb
  · rw [opens_cons, addrs']
    have nd2 := nd
    simp only [AF.addrs, List.cons_append, List.nil_append, List.nodup_cons, List.mem_cons, not_or] at nd2 ⊢
    obtain ⟨⟨x1, x2, x3, x4, x5, x6⟩, ⟨y2, y3, y4, y5, y6⟩, ⟨z3, z4, z5, z6⟩, ⟨v4, v5, v6⟩, ⟨w5, w6⟩, r6, r⟩ := nd2
    have jc : j ≠ c := jne ec
    have jp : j ≠ pa := jne d.path
    have ja : j ≠ f.a := jne eo
    have jn : j ≠ f.i.nl := jne h1.nl
    have jm : j ≠ f.i.ml := jne h1.ml
    have jo : j ∉ opens gs := fun z => by
      obtain ⟨o, e⟩ := trk j z
      exact jne e rfl
    exact ⟨⟨x1, x2, Ne.symm jc, x4, x5, x6⟩, ⟨y2, Ne.symm jp, y4, y5, y6⟩, ⟨Ne.symm ja, z4, z5, z6⟩, ⟨jn, jm, jo⟩, ⟨w5, w6⟩, r6, r⟩
  · refine k _ _ h1.ml ((notS _).mpr ⟨nc _ (List.mem_append_left _ a4), fun z => ?_, fun z => ?_⟩)
    · have := h1.ml
      rw [z, eo] at this
      cases this
    · have nd2 := ndf
      simp only [AF.addrs, List.nodup_cons, List.mem_cons, List.not_mem_nil, or_false, not_or] at nd2
      exact nd2.2.2.1 z.symm
  · exact Stk.on tr (fun b hb u e => k b u e ((notS b).mpr ⟨nc _ (List.mem_append_right _ hb), fun z => dis _ a1 _ hb z.symm, fun z => dis _ a3 _ hb z.symm⟩)) h2
  · rw [wt_cons]
    show F.kids.length + 1 + Ag.wt fs ≤ p + u
    omega
  · intro G hG
    rcases List.mem_cons.mp hG with e | e
    · rw [e]
      show (F.names ++ [m]).length ≤ p + u
      have := d.nam F (by simp)
      rw [List.length_append, List.length_singleton]
      omega
    · have := d.nam G (by simp [e])
      omega
/-- a member is read and put on the path -/
theorem DP.push {CV CC : Addr} {H0 : Hp} {c da pa : Addr} {bs : Sw.Bytes} {H : Hp} {p u : Nat} {F : Fm} {fs : List Fm} {f : AF} {gs : List AF} (d : DP CV CC H0 c da pa bs H p (F :: fs) (f :: gs)) {H2 : Hp} {a : Addr} {i : VI} {tag many : Nat} {codes : Sw.Bytes}
    (hu : 1 ≤ u) (hl : p + u ≤ bs.length) (hc : CurAt CC H2 c da (p + u)) (nv : NewV CV H H2 a i tag p many codes) (k : Kp [c] H H2) :
    H2 f.i.ml = some (.lst (f.ks.map V.ref)) ∧ (upd H2 f.i.ml (.lst ((f.ks ++ [a]).map V.ref))) pa = some (.lst (((f :: gs).map AF.a).reverse.map V.ref)) ∧
    DP CV CC H0 c da pa bs (upd (upd H2 f.i.ml (.lst ((f.ks ++ [a]).map V.ref))) pa (.lst ((((⟨a, i, []⟩ : AF) :: f :: gs).map AF.a).reverse.map V.ref))) (p + u) (⟨tag, p, many, codes, [], []⟩ :: F :: fs) (⟨a, i, []⟩ :: f :: gs) := by
  obtain ⟨h1, h2⟩ := d.stk
  have nd := d.nd
  rw [opens_cons] at nd
  have hcp : c ≠ pa := fun z => (List.nodup_cons.mp nd).1 (by rw [z]; exact List.mem_cons_self)
  have npa : ∀ b ∈ f.addrs ++ opens gs, b ≠ pa := fun b hb z => (List.nodup_cons.mp (List.nodup_cons.mp nd).2).1 (by rw [← z]; exact hb)
  have nc : ∀ b ∈ f.addrs ++ opens gs, b ≠ c := fun b hb z => (List.nodup_cons.mp nd).1 (by rw [← z]; exact List.mem_cons_of_mem _ hb)
  have ndo : (f.addrs ++ opens gs).Nodup := (List.nodup_cons.mp (List.nodup_cons.mp nd).2).2
  have ndf : f.addrs.Nodup := (List.nodup_append.mp ndo).1
  have dis := (List.nodup_append.mp ndo).2.2
  have a1 : f.a ∈ f.addrs := by simp [AF.addrs]
  have a2 : f.i.cl ∈ f.addrs := by simp [AF.addrs]
  have a3 : f.i.nl ∈ f.addrs := by simp [AF.addrs]
  have a4 : f.i.ml ∈ f.addrs := by simp [AF.addrs]
  obtain ⟨dc, ec⟩ := id d.cur
  obtain ⟨dc2, ec2⟩ := id hc
  have ne : ∀ {b x : Addr} {o : HO}, H b = some o → H x = none → x ≠ b := fun e n z => by rw [← z, n] at e; cases e
  have trk : ∀ b ∈ c :: pa :: opens (f :: gs), ∃ o, H b = some o := fun b hb => by
    rcases List.mem_cons.mp hb with rfl | hb
    · exact ⟨_, ec⟩
    · rcases List.mem_cons.mp hb with rfl | hb
      · exact ⟨_, d.path⟩
      · exact Stk.there (fs := F :: fs) (gs := f :: gs) d.stk b hb
  have hml2 : H2 f.i.ml = some (.lst (f.ks.map V.ref)) := by
    have := h1.ml
    rw [List.append_nil] at this
    exact k _ _ this fun z => nc _ (List.mem_append_left _ a4) (one_in z)
  have hpa2 : H2 pa = some (.lst (((f :: gs).map AF.a).reverse.map V.ref)) := k _ _ d.path fun z => hcp (one_in z).symm
  have mlpa : f.i.ml ≠ pa := npa _ (List.mem_append_left _ a4)
  have mlc : f.i.ml ≠ c := nc _ (List.mem_append_left _ a4)
  have newN : ∀ b ∈ (⟨a, i, []⟩ : AF).addrs, H b = none := fun b hb => by
    simp only [AF.addrs, List.mem_cons, List.not_mem_nil, or_false] at hb
    rcases hb with rfl | rfl | rfl | rfl
    · exact nv.na
    · exact nv.ncl
    · exact nv.nnl
    · exact nv.nml
  have disN : ∀ b ∈ (⟨a, i, []⟩ : AF).addrs, ∀ x ∈ c :: pa :: opens (f :: gs), b ≠ x := fun b hb x hx => by
    obtain ⟨o, e⟩ := trk x hx
    exact ne e (newN b hb)
  refine ⟨hml2, (upd_ne (Ne.symm mlpa)).trans hpa2, ?_⟩
  have keep : ∀ b u, H b = some u → b ≠ c → b ≠ f.i.ml → b ≠ pa → (upd (upd H2 f.i.ml (.lst ((f.ks ++ [a]).map V.ref))) pa (.lst ((((⟨a, i, []⟩ : AF) :: f :: gs).map AF.a).reverse.map V.ref))) b = some u := fun b u e n1 n2 n3 => by
    rw [upd_ne n3, upd_ne n2]
    exact k _ _ e fun z => n1 (one_in z)
  have keep2 : ∀ b u, H2 b = some u → b ≠ f.i.ml → b ≠ pa → (upd (upd H2 f.i.ml (.lst ((f.ks ++ [a]).map V.ref))) pa (.lst ((((⟨a, i, []⟩ : AF) :: f :: gs).map AF.a).reverse.map V.ref))) b = some u := fun b u e n2 n3 => by
    rw [upd_ne n3, upd_ne n2]
    exact e
  have mlin : f.i.ml ∈ c :: pa :: opens (f :: gs) := List.mem_cons_of_mem _ (List.mem_cons_of_mem _ (by rw [opens_cons]; exact List.mem_append_left _ a4))
  have m1 : a ∈ (⟨a, i, []⟩ : AF).addrs := by simp [AF.addrs]
  have m2 : i.cl ∈ (⟨a, i, []⟩ : AF).addrs := by simp [AF.addrs]
  have m3 : i.nl ∈ (⟨a, i, []⟩ : AF).addrs := by simp [AF.addrs]
  have m4 : i.ml ∈ (⟨a, i, []⟩ : AF).addrs := by simp [AF.addrs]
  have tr : ∀ b u, DD H0 c pa (f :: gs) b → H b = some u → (upd (upd H2 f.i.ml (.lst ((f.ks ++ [a]).map V.ref))) pa (.lst ((((⟨a, i, []⟩ : AF) :: f :: gs).map AF.a).reverse.map V.ref))) b = some u ∧ DD H0 c pa (⟨a, i, []⟩ :: f :: gs) b := fun b u hb e => by
    refine ⟨keep b u e (fun z => hb.2 (by rw [z]; simp)) (fun z => hb.2 (by rw [z]; exact mlin)) (fun z => hb.2 (by rw [z]; simp)), hb.1, fun z => ?_⟩
    rcases List.mem_cons.mp z with z | z
    · exact hb.2 (by rw [z]; simp)
    rcases List.mem_cons.mp z with z | z
    · exact hb.2 (by rw [z]; simp)
    rw [opens_cons] at z
    rcases List.mem_append.mp z with z | z
    · have := newN b z
      rw [e] at this
      cases this
    · exact hb.2 (List.mem_cons_of_mem _ (List.mem_cons_of_mem _ z))
  have w1 := d.wt
  refine ⟨⟨dc2, keep2 _ _ ec2 (Ne.symm mlc) hcp⟩, hl, upd_same, Same.w (Same.w (Same.kp d.same k fun b hb => by rw [one_in hb]; exact d.new _ (by simp)) (d.new _ mlin)) (d.new _ (by simp)), ?_, ?_,
    ⟨⟨?_, nv.tag, nv.place, nv.many, ?_, ?_, ?_, rfl⟩, ⟨?_, h1.tag, h1.place, h1.many, ?_, ?_, ?_, TAs.on tr _ _ h1.kids⟩, ?_⟩, ?_, ?_⟩
  · intro b hb
    rcases List.mem_cons.mp hb with hb | hb
    · exact d.new b (by rw [hb]; simp)
    rcases List.mem_cons.mp hb with hb | hb
    · exact d.new b (by rw [hb]; simp)
    rw [opens_cons] at hb
    rcases List.mem_append.mp hb with hb | hb
    · exact Same.none d.same (newN b hb)
    · exact d.new b (List.mem_cons_of_mem _ (List.mem_cons_of_mem _ hb))
  · have ndN : ((⟨a, i, []⟩ : AF).addrs).Nodup := nv.nd
    have nd1 := d.nd
    obtain ⟨q1, q2⟩ := List.nodup_cons.mp nd1
    obtain ⟨q3, q4⟩ := List.nodup_cons.mp q2
    rw [opens_cons]
    refine List.nodup_cons.mpr ⟨fun z => ?_, List.nodup_cons.mpr ⟨fun z => ?_, List.nodup_append.mpr ⟨ndN, q4, fun x hx y hy => disN x hx y (List.mem_cons_of_mem _ (List.mem_cons_of_mem _ hy))⟩⟩⟩
    · rcases List.mem_cons.mp z with z | z
      · exact hcp z
      rcases List.mem_append.mp z with z | z
      · exact disN c z c (by simp) rfl
      · exact q1 (List.mem_cons_of_mem _ z)
    · rcases List.mem_append.mp z with z | z
      · exact disN pa z pa (by simp) rfl
      · exact q3 z
  · obtain ⟨dx, e⟩ := nv.obj
    exact ⟨dx, keep2 _ _ e (disN _ m1 _ mlin) (disN _ m1 _ (by simp))⟩
  · exact keep2 _ _ nv.cl (disN _ m2 _ mlin) (disN _ m2 _ (by simp))
  · exact keep2 _ _ nv.nl (disN _ m3 _ mlin) (disN _ m3 _ (by simp))
  · exact keep2 _ _ nv.ml (disN _ m4 _ mlin) (disN _ m4 _ (by simp))
  · obtain ⟨dx, e⟩ := h1.obj
    refine ⟨dx, keep _ _ e (nc _ (List.mem_append_left _ a1)) (fun z => ?_) (npa _ (List.mem_append_left _ a1))⟩
    have := h1.ml
    rw [← z, e] at this
    cases this
  · have nd2 := ndf
    simp only [AF.addrs, List.nodup_cons, List.mem_cons, List.not_mem_nil, or_false, not_or] at nd2
    exact keep _ _ h1.cl (nc _ (List.mem_append_left _ a2)) nd2.2.1.2 (npa _ (List.mem_append_left _ a2))
  · have nd2 := ndf
    simp only [AF.addrs, List.nodup_cons, List.mem_cons, List.not_mem_nil, or_false, not_or] at nd2
    exact keep _ _ h1.nl (nc _ (List.mem_append_left _ a3)) nd2.2.2.1 (npa _ (List.mem_append_left _ a3))
  · rw [upd_ne mlpa, upd_same]
  · exact Stk.on tr (fun b hb u e => keep b u e (nc _ (List.mem_append_right _ hb)) (fun z => dis _ a4 _ hb z.symm) (npa _ (List.mem_append_right _ hb))) h2
  · rw [wt_cons]
    show 0 + 1 + Ag.wt (F :: fs) ≤ p + u
    omega
  · intro G hG
    rcases List.mem_cons.mp hG with e | e
    · rw [e]
      show 0 ≤ _
      omega
    · have := d.nam G e
      omega
end Ag

set_option maxRecDepth 100000
set_option maxHeartbeats 2000000
namespace Ag
open PySem PySem.Spec PyProof.Rows L2
section
variable {P : Program} {w : World} {K : PySem.W.Frag} {mg : Str → Option Value} {base : Heap} {CB fB CV CC CK aKW aPK : Addr}
/-! ## decode -/
def spDecode (K : PySem.W.Frag) (CB CV : Addr) : Sp := fun vs H Q E => ∃ (da : Addr) (bs : Sw.Bytes) (o : Option PT), vs = [.ref da] ∧ SqL K H da (bV bs) ∧ bs.length ≤ 8192 ∧ Decoded bs o ∧
  (o = none → Brk CB [] H E) ∧ (∀ t, o = some t → ∀ H' a, TA CV (fun b => H b = none) H' t a → Same H H' → Q (.ref a) H')
theorem scDecode : FnScope ["data", "cursor", "root", "path", "value", "member"] ["data"] (defScope sDecode) := ⟨rfl, rfl, rfl, by decide +kernel, rfl, by decide +kernel, by decide +kernel⟩
/-- the end that the machine comes to -/
def Out (bs : Sw.Bytes) (o : Option PT) : Option (PT × Nat) → Prop
  | none => o = none
  | some (t, q) => if q < bs.length then o = none else o = some t
theorem decoded_out {bs : Sw.Bytes} {o : Option PT} (h : Decoded bs o) : (mHead 1 bs = none ∧ o = none) ∨ ∃ tag many codes u m e, mHead 1 bs = some (tag, many, codes, u) ∧ Ends bs m [⟨tag, 0, many, codes, [], []⟩] u e ∧ Out bs o e := by
  cases h with
  | nohead h => exact .inl ⟨h, rfl⟩
  | broken h1 h2 => exact .inr ⟨_, _, _, _, _, _, h1, h2, rfl⟩
  | more h1 h2 h3 => exact .inr ⟨_, _, _, _, _, _, h1, h2, by show (if _ < _ then _ else _); rw [if_pos h3]⟩
  | good h1 h2 h3 => exact .inr ⟨_, _, _, _, _, _, h1, h2, by show (if _ < _ then _ else _); rw [if_neg h3]⟩
theorem if_thenN {c : Prop} [Decidable c] {b : TS} {D : L2.Ends} {σ : L2.St} {H : Hp} (R : Hp → Prop) (hN : ∀ H', R H' → D.nx σ H') (ht : c → (∀ H', R H' → D.nx σ H') → b D σ H) (he : ¬ c → R H) : if decide c = true then b D σ H else tNext D σ H := idc (fun h => ht h hN) fun h => hN H (he h)
theorem at_last {α : Type} (xs : List α) (v : α) : atI (xs ++ [v]) (-1) = some v := by
  unfold atI ixN
  rw [if_neg (by decide), List.length_append, List.length_singleton, if_pos (by omega)]
  show (xs ++ [v])[(-1 + ((xs.length + 1 : Nat) : Int)).toNat]? = some v
  rw [show (-1 + ((xs.length + 1 : Nat) : Int)).toNat = xs.length by omega, List.getElem?_append_right (Nat.le_refl _), Nat.sub_self]
  rfl
theorem ok_decode {f fI fH fN : Addr} {fd fdI fdH fdN : FuncData} {psH psN : List Str} (T : Txt K mg CB fB CV CC CK aKW aPK) (F : Fun K "decode" "decode" sDecode f fd)
    (M : Mk K CC fI) (GI : FnOk P w K mg base CX0 1 fI fdI ["self", "data"] (spCInit CC)) (bI : Binds K fdI ["self", "data"] [])
    (GH : Gf P w K mg base (L2.CX P w) 6 "read_head" fH fdH psH (spHead K CB CC CV)) (GN : Gf P w K mg base (L2.CX P w) 5 "read_name" fN fdN psN (spName K CB CC CV)) : FnOk P w K mg base (L2.CX P w) 7 f fd ["data"] (spDecode K CB CV) := by
  refine F.okX scDecode (fun vs H Q E h => ?_) (fun cdv A outer s H vs Q E hr h => ⟨_,
    pss_cons (ps_set (i := 1) scDecode.nd rfl (Or.inl rfl) (pe_make M GI (hr.mono (by decide)) rfl T.gC bI .nil pass0 (pa_cons (pv 0) pa_nil)))
    (pss_cons (ps_set (i := 2) scDecode.nd rfl (Or.inl rfl) (pe_g GH hr psE (pa_cons (pv 1) (pa_cons pe_int pa_nil))))
    (pss_cons (ps_set (i := 3) scDecode.nd rfl (Or.inl rfl) (pe_lst (pa_cons (pv 2) pa_nil)))
    (pss_cons (ps_while poE (pt_cmpR op_gt (pe_callB call_len (by rfl) T.len PySem.boot_len (pa_cons (pv 3) pa_nil)) pe_int (nomark _))
      (pss_cons (ps_set (i := 4) scDecode.nd rfl (Or.inl rfl) (pe_ix ix_list (pv 3) (pe_un un_neg pe_int) (fun _ _ => rfl)))
      (pss_one (ps_if (pt_cmpR op_eq (pe_callB call_len (by rfl) T.len PySem.boot_len (pa_cons (pe_fld (pv 4) rfl) pa_nil)) (pe_fld (pv 4) rfl) (nomark _))
        (pss_one (ps_expr (pe_bm0 PySem.F.plainAttrs_list PySem.F.slot_list_pop PySem.F.type_list_pop mt_pop (pv 3))))
        (pss_cons (ps_if (pt_cmpR op_eq (pe_fld (pv 4) rfl) (pe_gi T.tRec) (nomark _)) (pss_one (ps_expr (pe_g GN (hr.mono (by decide)) psE (pa_cons (pv 1) (pa_cons (pv 4) pa_nil))))) pss_nil)
        (pss_cons (ps_set (i := 5) scDecode.nd rfl (Or.inl rfl) (pe_g GH hr psE (pa_cons (pv 1) (pa_cons (pe_op op_add (pe_callB call_len (by rfl) T.len PySem.boot_len (pa_cons (pv 3) pa_nil)) pe_int) pa_nil))))
        (pss_cons (ps_expr (pe_bm PySem.F.plainAttrs_list PySem.F.slot_list_append PySem.F.type_list_append mt_append (pe_fld (pv 4) rfl) (pa_cons (pv 5) pa_nil)))
        (pss_one (ps_expr (pe_bm PySem.F.plainAttrs_list PySem.F.slot_list_append PySem.F.type_list_append mt_append (pv 3) (pa_cons (pv 5) pa_nil)))))))))))
    (pss_cons (ps_if (pt_cmpR op_lt (pe_fld (pv 1) rfl) (pe_callB call_len (by rfl) T.len PySem.boot_len (pa_cons (pv 0) pa_nil)) (nomark _))
      (pss_one (ps_raiseBrk rfl T.brk hr (takes_of rfl rfl rfl rfl) (by exact (pa_cons (pe_fld (pv 1) rfl) pa_nil)))) pss_nil)
    (pss_one (ps_ret (pv 2))))))), ?_⟩)
  · obtain ⟨da, bs, o, rfl, _⟩ := h
    rfl
  · obtain ⟨da, bs, o, rfl, hq, hlen, hdec, kn, ks⟩ := h
    refine ⟨_, rfl, fun c dc nc ndc nec => ⟨c, dc, da, rfl, upd_same, fun H1 hc1 k1 => ⟨rfl, ?_⟩⟩⟩
    have s1 : Same H H1 := fun b u e => by
      have b1 := ne_of_none e nc
      exact k1 b u (by rw [upd_ne b1, upd_ne (ne_of_none e ndc)]; exact e) fun z => b1 (one_in z)
    have brk : ∀ {S : List Addr} {H' : Hp}, Same H H' → (∀ b ∈ S, H b = none) → o = none → Brk CB S H' E := fun sm hS ho d H2 k2 => kn ho d H2 (Kp.of (Same.kp sm k2 hS))
    refine ⟨_, rfl, c, da, bs, 0, 1, rfl, ⟨hc1, Kp.seq (S := []) (Kp.of s1) hq (by simp), hlen, Nat.zero_le _⟩, fun hn => ?_, fun tag many codes u hh H2 root ri hc2 nv k2 => ?_⟩
    · rcases decoded_out hdec with ⟨_, ho⟩ | ⟨tag, many, codes, u, m, e, hh, _⟩
      · exact brk s1 (fun b hb => by rw [one_in hb]; exact nc) ho
      · rw [show bs.drop 0 = bs from rfl, hh] at hn
        cases hn
    rcases decoded_out hdec with ⟨hh2, _⟩ | ⟨tag2, many2, codes2, u2, m, e, hh2, hends, hout⟩
    · rw [show bs.drop 0 = bs from rfl, hh2] at hh
      cases hh
    have hh3 := hh2.symm.trans hh
    injection hh3 with hh3
    injection hh3 with q1 hh3
    injection hh3 with q2 hh3
    injection hh3 with q3 q4
    subst q1 q2 q3 q4
    rw [Nat.zero_add] at hc2
    have hu := mHead_used hh2
    have s2 : Same H H2 := Same.kp s1 k2 fun b hb => by rw [one_in hb]; exact nc
    refine ⟨_, rfl, (by rw [sz_eq]; show 1 ≤ 16777216; decide), fun pa npa => ?_⟩
    obtain ⟨dxc, ec2⟩ := id hc2
    obtain ⟨dxr, er2⟩ := id nv.obj
    have hrc : root ≠ c := fun z => by rw [z, ec2] at er2; cases er2
    have trk : ∀ b ∈ c :: [root, ri.cl, ri.nl, ri.ml], ∃ o, H2 b = some o := fun b hb => by
      simp only [List.mem_cons, List.not_mem_nil, or_false] at hb
      rcases hb with rfl | rfl | rfl | rfl | rfl
      · exact ⟨_, ec2⟩
      · exact ⟨_, er2⟩
      · exact ⟨_, nv.cl⟩
      · exact ⟨_, nv.nl⟩
      · exact ⟨_, nv.ml⟩
    have nepa : ∀ b ∈ c :: [root, ri.cl, ri.nl, ri.ml], b ≠ pa := fun b hb => by
      obtain ⟨o, e⟩ := trk b hb
      exact ne_of_none e npa
    have newr : ∀ b ∈ [root, ri.cl, ri.nl, ri.ml], H1 b = none := fun b hb => by
      simp only [List.mem_cons, List.not_mem_nil, or_false] at hb
      rcases hb with rfl | rfl | rfl | rfl
      · exact nv.na
      · exact nv.ncl
      · exact nv.nnl
      · exact nv.nml
    have d0 : DI CV CC H c da pa root bs e m (upd H2 pa (.lst [.ref root])) u2 [⟨tag2, 0, many2, codes2, [], []⟩] [⟨root, ri, []⟩] := by
      have up : ∀ b ∈ c :: [root, ri.cl, ri.nl, ri.ml], ∀ o, H2 b = some o → upd H2 pa (.lst [.ref root]) b = some o := fun b hb o e => (upd_ne (nepa b hb)).trans e
      have nH : ∀ b, H1 b = none → H b = none := fun b hb => Same.none s1 hb
      refine DP.di ⟨⟨dxc, up _ (by simp) _ ec2⟩, hu.2.1, upd_same, Same.w s2 (Same.none s2 npa), ?_, ?_, ⟨⟨⟨dxr, up _ (by simp) _ er2⟩, nv.tag, nv.place, nv.many, up _ (by simp) _ nv.cl, up _ (by simp) _ nv.nl, up _ (by simp) _ nv.ml, rfl⟩, trivial⟩, ?_, ?_⟩ hends rfl
      · intro b hb
        rcases List.mem_cons.mp hb with rfl | hb
        · exact nc
        rcases List.mem_cons.mp hb with rfl | hb
        · exact Same.none s2 npa
        exact nH b (newr b hb)
      · show (c :: pa :: [root, ri.cl, ri.nl, ri.ml]).Nodup
        refine List.nodup_cons.mpr ⟨fun z => ?_, List.nodup_cons.mpr ⟨fun z => nepa pa (List.mem_cons_of_mem _ z) rfl, nv.nd⟩⟩
        rcases List.mem_cons.mp z with z | z
        · exact nepa c (by simp) z
        · have := newr c z
          obtain ⟨dx1, ec1⟩ := hc1
          rw [ec1] at this
          cases this
      · show 0 + 1 + 0 ≤ u2
        omega
      · intro F2 hF2
        rw [one_in hF2]
        exact Nat.zero_le _
    refine ⟨fun m' σ H' => ∃ (p : Nat) (fs : List Fm) (gs : List AF) (x y : Option V), σ = [some (.ref da), some (.ref c), some (.ref root), some (.ref pa), x, y] ∧ DI CV CC H c da pa root bs e m' H' p fs gs,
      ⟨m, u2, _, _, _, _, rfl, d0⟩, ?_⟩
    rintro m' σ H3 ⟨p, fs, gs, x, y, rfl, d⟩
    have d1 := d.dp
    have hgl : gs.length = fs.length := Stk.length d.stk
    refine ⟨_, rfl, _, _, rfl, .inl ⟨_, SqL.of d.path, rfl⟩, _, _, rfl, rfl, _, rfl, ?_⟩
    rw [List.length_map, List.length_reverse, List.length_map]
    refine idc (fun g => ?_) (fun g => ?_)
    · refine ⟨fun σ' H' => ∃ m'', m'' < m' ∧ ∃ (p : Nat) (fs : List Fm) (gs : List AF) (x y : Option V), σ' = [some (.ref da), some (.ref c), some (.ref root), some (.ref pa), x, y] ∧ DI CV CC H c da pa root bs e m'' H' p fs gs, fun _ _ h => h, ?_⟩
      cases fs with
      | nil => exact absurd g (by show ¬ ((gs.length : Nat) : Int) > 0; rw [hgl]; decide)
      | cons F fs =>
      cases gs with
      | nil => exact d.stk.elim
      | cons f gs =>
      obtain ⟨h1, h2⟩ := d.stk
      obtain ⟨dxf, ef⟩ := id h1.obj
      have epath : ((f :: gs).map AF.a).reverse.map V.ref = (gs.map AF.a).reverse.map V.ref ++ [.ref f.a] := by
        rw [List.map_cons, List.reverse_cons, List.map_append, List.map_singleton]
      have hml : H3 f.i.ml = some (.lst (f.ks.map V.ref)) := by
        have := h1.ml
        rw [List.append_nil] at this
        exact this
      have hkl : f.ks.length = F.kids.length := TAs.length h1.kids
      refine ⟨_, rfl, 1, rfl, pa, _, _, _, rfl, rfl, SqL.of d.path, (by rw [epath]; exact at_last _ _), ?_⟩
      refine ⟨_, rfl, f.a, CV, dxf, _, _, rfl, ef, T.clV, T.vMembers, vF_members _, _, _, rfl, .inl ⟨_, SqL.of hml, rfl⟩, _, rfl, f.a, CV, dxf, _, _, rfl, ef, T.clV, T.vMany, vF_many _, rfl, _, rfl, ?_⟩
      have hlen2 : ((f.ks.map V.ref).length : Nat) = F.kids.length := by rw [List.length_map, hkl]
      rw [hlen2, h1.many]
      refine idc (fun g1 => ?_) (fun g1 => ?_)
      · have hk : F.kids.length = F.many := by have := V.int.inj g1; omega
        obtain ⟨m2, fs', hm2, d2⟩ := d.pop hk
        refine ⟨_, rfl, (.inl ⟨rfl, _, SqL.of d.path⟩), pa, _, .ref f.a, rfl, rfl, d.path, ?_, ?_⟩
        · rw [epath, List.length_append, List.length_singleton, Nat.add_sub_cancel, List.getElem?_append_right (Nat.le_refl _), Nat.sub_self]
          rfl
        · exact ⟨m2, hm2, p, fs', _, _, _, rfl, d2⟩
      · obtain ⟨he, hroot⟩ := d.ends (by simp)
        obtain ⟨m2, rfl, hcase⟩ := ends_inv he
        have hkne : F.kids.length ≠ F.many := fun z => g1 (by rw [z])
        rcases hcase with ⟨z, _⟩ | ⟨_, hcase⟩
        · exact absurd z hkne
        obtain ⟨dc3, ec3⟩ := id d.cur
        have le := d.le
        have rdr : ∀ {Hn : Hp} {q : Nat}, Same H Hn → CurAt CC Hn c da q → q ≤ bs.length → Rdr K CC Hn c da bs q := fun sm hc hq' => ⟨hc, Kp.seq (S := []) (Kp.of sm) hq (by simp), hlen, hq'⟩
        have hca : c ≠ f.a := fun z => by rw [← z, ec3] at ef; cases ef
        have newc : H c = none := nc
        have newf : ∀ b ∈ f.addrs, H b = none := fun b hb => d.new b (by rw [opens_cons]; exact List.mem_cons_of_mem _ (List.mem_cons_of_mem _ (List.mem_append_left _ hb)))
        have outn : e = none → o = none := fun z => by rw [z] at hout; exact hout
        refine ⟨_, rfl, f.a, CV, dxf, _, _, rfl, ef, T.clV, T.vTag, vF_tag _, rfl, _, rfl, ?_⟩
        rw [h1.tag]
        refine if_thenN (fun Hn => ∃ F' u f', nameStep bs F p = some (F', u) ∧ DP CV CC H c da pa bs Hn (p + u) (F' :: fs) (f' :: gs) ∧ f'.a = f.a) ?_ (fun g2 hN => ?_) (fun g2 => ?_)
        · rintro Hn ⟨F', u, f', hns, dn, hfa⟩
          obtain ⟨hn1, hn2⟩ := dn.stk
          have hpl : (((f' :: gs).map AF.a).reverse.map V.ref).length = fs.length + 1 := by
            rw [List.length_map, List.length_reverse, List.length_map, List.length_cons, Stk.length hn2]
          refine ⟨_, rfl, _, rfl, _, _, rfl, .inl ⟨_, SqL.of dn.path, rfl⟩, _, _, rfl, rfl, c, da, bs, p + u, fs.length + 2, ?_, rdr dn.same dn.cur dn.le, fun hn => ?_, fun tag many codes u' hh5 H5 a i hc5 nv5 k5 => ?_⟩
          · rw [hpl]
            rfl
          · rcases hcase with ⟨z, _⟩ | ⟨F2, u2, hz, hcase⟩
            · rw [hns] at z; cases z
            rw [hns] at hz
            injection hz with hz
            injection hz with z1 z2
            subst z1 z2
            rcases hcase with ⟨_, z⟩ | ⟨_, _, _, _, z, _⟩
            · exact brk dn.same (fun b hb => by rw [one_in hb]; exact nc) (outn z)
            · rw [hn] at z; cases z
          · rcases hcase with ⟨z, _⟩ | ⟨F2, u2, hz, hcase⟩
            · rw [hns] at z; cases z
            rw [hns] at hz
            injection hz with hz
            injection hz with z1 z2
            subst z1 z2
            rcases hcase with ⟨z, _⟩ | ⟨tag', many', codes', u'', z, hends2⟩
            · rw [hh5] at z; cases z
            rw [hh5] at z
            injection z with z
            injection z with z1 z
            injection z with z2 z
            injection z with z3 z4
            subst z1 z2 z3 z4
            have hmu := mHead_used hh5
            rw [List.length_drop] at hmu
            have le2 := dn.le
            obtain ⟨g1', g2', dp⟩ := DP.push dn hmu.1 (by omega) hc5 nv5 k5
            obtain ⟨dx5, e5⟩ := hn1.obj
            have hcf : c ≠ f'.a := fun z => by
              have := dn.cur
              obtain ⟨dc6, ec6⟩ := this
              rw [← z, ec6] at e5; cases e5
            have ob5 : H5 f'.a = some (.ins CV dx5 (vF f'.i)) := k5 _ _ e5 fun z => hcf (one_in z).symm
            have wn := dn.wt
            rw [wt_cons] at wn
            have hkl' := TAs.length hn1.kids
            rw [← hfa]
            refine ⟨_, rfl, f'.a, CV, dx5, _, _, rfl, ob5, T.clV, T.vMembers, vF_members _, .inl ⟨rfl, _, SqL.of g1'⟩, _, rfl, f'.i.ml, _, _, rfl, rfl, g1', ?_, ?_⟩
            · rw [List.length_map, hkl', sz_eq]; omega
            rw [← List.map_singleton (f := V.ref), ← List.map_append]
            refine ⟨_, rfl, .inl ⟨rfl, _, SqL.of g2'⟩, _, rfl, pa, _, _, rfl, rfl, g2', ?_, ?_⟩
            · have wl := wt_len fs
              rw [hpl, sz_eq]; omega
            · refine ⟨m2, Nat.lt_succ_self _, p + u + u', ⟨tag, p + u, many, codes, [], []⟩ :: F' :: fs, (⟨a, i, []⟩ : AF) :: f' :: gs, _, _, rfl, ?_⟩
              have e6 : ((f' :: gs).map AF.a).reverse.map V.ref ++ [V.ref a] = (((⟨a, i, []⟩ : AF) :: f' :: gs).map AF.a).reverse.map V.ref := by
                rw [List.map_cons (a := (⟨a, i, []⟩ : AF)), List.reverse_cons, List.map_append]
                rfl
              rw [e6]
              refine DP.di dp hends2 ?_
              rw [List.map_cons, List.map_cons, List.getLast?_cons_cons, hfa]
              rw [List.map_cons] at hroot
              exact hroot
        · have t6 : F.tag = 6 := by have := V.int.inj g2; omega
          have hstep : ∀ x, nameStep bs F p = x → x = (mName F.codes (bs.drop p)).map (fun x => (F.named x.1, x.2)) := fun x hx => by
            rw [← hx]
            unfold nameStep
            rw [if_pos t6]
          have hnl := d.nam F (by simp)
          refine ⟨_, rfl, _, rfl, c, f.a, da, bs, p, f.i, F.codes, F.names, rfl, hca, rdr d.same d.cur le, ⟨dxf, ef⟩, h1.cl, h1.nl, by omega, fun hn => ?_, fun mm u hmu H4 j hc4 hv4 hj hj4 hn4 k4 => ?_⟩
          · rcases hcase with ⟨_, z⟩ | ⟨F', u, hz, _⟩
            · refine brk d.same (fun b hb => ?_) (outn z)
              rcases List.mem_cons.mp hb with rfl | hb
              · exact nc
              · rw [one_in hb]; exact newf _ (by simp [AF.addrs])
            · have := hstep _ hz
              rw [hn] at this
              cases this
          · have hmu2 := mName_used hmu
            rw [List.length_drop] at hmu2
            exact hN _ ⟨F.named mm, u, _, (hstep _ rfl).trans (by rw [hmu]; rfl), DP.name d1 (by omega) (by omega) hc4 hv4 hj hj4 hn4 k4, rfl⟩
        · have t6 : ¬ F.tag = 6 := fun z => g2 (by rw [z]; rfl)
          refine ⟨F, 0, f, ?_, d1, rfl⟩
          unfold nameStep
          rw [if_neg t6]
    · have hfs : fs = [] := by
        cases fs with
        | nil => rfl
        | cons F fs => exact absurd (by rw [hgl, List.length_cons]; show ((fs.length + 1 : Nat) : Int) > 0; omega) g
      subst hfs
      obtain ⟨t, he, hta⟩ := d.done rfl
      obtain ⟨dc3, ec3⟩ := id d.cur
      have hout2 := hout
      rw [he] at hout2
      refine ⟨_, rfl, c, CC, dc3, _, _, rfl, ec3, T.clC, T.cAt, cF_at da p, _, rfl, _, _, rfl, .inl ⟨_, Kp.seq (S := []) (Kp.of d.same) hq (by simp), rfl⟩, _, _, rfl, rfl, _, rfl, ?_⟩
      rw [bV_length]
      refine idc (fun g1 => ?_) (fun g1 => ?_)
      · have ho : o = none := (if_pos (show p < bs.length by omega)).mp hout2
        exact ⟨_, rfl, c, CC, dc3, _, _, rfl, ec3, T.clC, T.cAt, cF_at da p, _, rfl, fun dd hd => brk (S := []) d.same (by simp) ho dd _ ((Kp.refl _ _).new' hd)⟩
      · have ho : o = some t := (if_neg (show ¬ p < bs.length by omega)).mp hout2
        exact ⟨_, rfl, ks t ho _ root (TA.on (fun b u hb e => ⟨e, hb.1⟩) _ _ hta) d.same⟩
end
end Ag

set_option maxRecDepth 100000
set_option maxHeartbeats 2000000
namespace Ag
open PySem PySem.Spec PyProof.Rows L2
section
variable {P : Program} {w : World} {K : PySem.W.Frag} {mg : Str → Option Value} {base : Heap} {CB fB CV CC CK aKW aPK : Addr}
/-! ## value_or_none -/
def spVal (K : PySem.W.Frag) (CV : Addr) : Sp := fun vs H Q E => ∃ (da : Addr) (bs : Sw.Bytes) (o : Option PT), vs = [.ref da] ∧ SqL K H da (bV bs) ∧ bs.length ≤ 8192 ∧ Decoded bs o ∧
  (o = none → ∀ H', Same H H' → Q .non H') ∧ (∀ t, o = some t → ∀ H' a, TA CV (fun b => H b = none) H' t a → Same H H' → Q (.ref a) H')
theorem scVal : FnScope ["data"] ["data"] (defScope sValueOrNone) := ⟨rfl, rfl, rfl, by decide +kernel, rfl, by decide +kernel, by decide +kernel⟩
theorem ok_val {f fD : Addr} {fd fdD : FuncData} {psD : List Str} (T : Txt K mg CB fB CV CC CK aKW aPK) (F : Fun K "value_or_none" "value_or_none" sValueOrNone f fd)
    (GD : Gf P w K mg base (L2.CX P w) 7 "decode" fD fdD psD (spDecode K CB CV)) : FnOk P w K mg base CX0 8 f fd ["data"] (spVal K CV) := by
  refine F.ok scVal (fun vs H Q E h => ?_) (fun cdv A outer s H vs Q E hr h => ⟨_,
    pss_one (ps_try_only (tb := fun W => tRet (tCallS (spDecode K CB CV) (WE W) (tCons (tVar 0) tNil))) (ts := fun _ _ _ => tRet (tC .non)) (Wout := fun _ _ _ _ => False) rfl rfl ⟨rfl, by decide, Or.inl T.brk.gC⟩ takes0
      (fun W pn xe tk _ => pss_one (ps_ret (pe_callS GD.F (hr.mono (by decide)) rfl GD.hm GD.kp GD.b (fun σ => passAt tk σ) (by exact (pa_cons (pv 0) pa_nil)))))
      (fun _ _ _ _ _ _ _ => pss_one (ps_ret pe_non))), ?_⟩)
  · obtain ⟨da, bs, o, rfl, _⟩ := h
    rfl
  · obtain ⟨da, bs, o, rfl, hq, hlen, hdec, kn, ks⟩ := h
    refine ⟨_, rfl, da, bs, o, rfl, hq, hlen, hdec, fun ho d H' k' => ?_, fun t ht H' a ta sm => ks t ht H' a ta sm⟩
    exact ⟨true, T.eB, fun _ a ha => kn ho H' (Kp.same k'), fun z => nomatch z⟩
end
end Ag

set_option maxRecDepth 100000
set_option maxHeartbeats 2000000
namespace Ag
open PySem PySem.Spec PyProof.Rows L2
/-! # A dict whose keys are nested tuples -/
mutual
/-- a value that is such a key -/
def HV (H : Hp) : NestedKey → V → Prop
  | .none, v => v = .non
  | .num i, v => v = .int i
  | .text x, v => v = .str x
  | .tup ks, v => ∃ b xs, v = .ref b ∧ H b = some (.tup xs) ∧ HVs H ks xs
def HVs (H : Hp) : List NestedKey → List V → Prop
  | [], xs => xs = []
  | k :: ks, xs => ∃ y ys, xs = y :: ys ∧ HV H k y ∧ HVs H ks ys
end
mutual
theorem HV.on {H H' : Hp} (e : ∀ b ys, H b = some (.tup ys) → H' b = some (.tup ys)) : ∀ (k : NestedKey) (v : V), HV H k v → HV H' k v
  | .none, _, h => h
  | .num _, _, h => h
  | .text _, _, h => h
  | .tup ks, _, ⟨b, xs, h1, h2, h3⟩ => ⟨b, xs, h1, e _ _ h2, HVs.on e ks xs h3⟩
theorem HVs.on {H H' : Hp} (e : ∀ b ys, H b = some (.tup ys) → H' b = some (.tup ys)) : ∀ (ks : List NestedKey) (xs : List V), HVs H ks xs → HVs H' ks xs
  | [], _, h => h
  | k :: ks, _, ⟨y, ys, h1, h2, h3⟩ => ⟨y, ys, h1, HV.on e k y h2, HVs.on e ks ys h3⟩
end
mutual
theorem hv_is {P : Program} {w : World} {H : Hp} {h : Heap} (ok : HOk P w H h) : ∀ (k : NestedKey) (v : V) (u : Value), HV H k v → RelV v u → NestedIs h k u
  | .none, v, u, e, r => by
    subst e
    cases r
    exact .none
  | .num i, v, u, e, r => by
    subst e
    obtain ⟨t, rfl⟩ := r
    exact .int i t
  | .text x, v, u, e, r => by
    subst e
    obtain ⟨t, rfl⟩ := r
    exact .text x t
  | .tup ks, v, u, ⟨b, xs, e, h2, h3⟩, r => by
    subst e
    cases r
    obtain ⟨_, its, rv, o, h4, h5, n, h6⟩ := (show ObjOk P w H h b (.tup xs) from ok b _ h2)
    exact .tup h4 h5 h6 (by simpa using hvs_is ok ks xs its h3 rv)
theorem hvs_is {P : Program} {w : World} {H : Hp} {h : Heap} (ok : HOk P w H h) : ∀ (ks : List NestedKey) (xs : List V) (us : List Value), HVs H ks xs → Vals xs us → NestedAll h ks us
  | [], xs, us, e, r => by
    have : xs = [] := e
    subst this
    cases r
    exact .nil
  | k :: ks, xs, us, ⟨y, ys, e, h2, h3⟩, r => by
    subst e
    cases r with
    | cons r1 r2 => exact .cons (hv_is ok k y _ h2 r1) (hvs_is ok ks ys _ h3 r2)
end
/-- the dict's own object: its entries -/
def NDO (P : Program) (w : World) (d : Addr) (xs : List (NestedKey × Addr × Value)) : HO := .ext fun h => xs.length ≤ sizeLine ∧ (d == sysModules) = false ∧ ∃ o es ep, h.get? d = some o ∧ o.ExactDict ∧ o.data = .dict es ep ∧ es.toList = xs.map (entryOfKey (nestedKind P w)) ∧ (xs.map (·.1)).Nodup
/-- an entry: its key's tuple is known, its value is this -/
def NEnt (H : Hp) (p : NestedKey × V) (q : NestedKey × Addr × Value) : Prop := p.1 = q.1 ∧ HV H p.1 (.ref q.2.1) ∧ p.1.depth ≤ 8 ∧ RelV p.2 q.2.2
/-- at d stands a dict with these keys and values -/
def ND (P : Program) (w : World) (H : Hp) (d : Addr) (kvs : List (NestedKey × V)) : Prop := ∃ xs, H d = some (NDO P w d xs) ∧ Paired (NEnt H) kvs xs
def valN (kvs : List (NestedKey × V)) (k : NestedKey) : Option V := (kvs.find? fun kv => decide (kv.1 = k)).map (·.2)
theorem nd_val {H : Hp} {kvs : List (NestedKey × V)} {xs : List (NestedKey × Addr × Value)} (r : Paired (NEnt H) kvs xs) (k : NestedKey) : RelO (valN kvs k) ((atKey xs k).map (·.2)) := by
  induction r with
  | nil => exact True.intro
  | @cons p q ps qs hq t ih =>
    obtain ⟨e, _, _, rv⟩ := hq
    by_cases h : p.1 = k
    · have h' : q.1 = k := by rw [← e]; exact h
      have e1 : valN (p :: ps) k = some p.2 := by simp [valN, h]
      have e2 : atKey (q :: qs) k = some q.2 := by simp [atKey, h']
      rw [e1, e2]
      exact rv
    · have h' : ¬ q.1 = k := by rw [← e]; exact h
      have e1 : valN (p :: ps) k = valN ps k := by simp [valN, h]
      have e2 : atKey (q :: qs) k = atKey qs k := by simp [atKey, h']
      rw [e1, e2]
      exact ih
theorem ND.on {P : Program} {w : World} {H H' : Hp} {d : Addr} {kvs : List (NestedKey × V)} (h : ND P w H d kvs) (hd : ∀ o, H d = some o → H' d = some o) (e : ∀ b ys, H b = some (.tup ys) → H' b = some (.tup ys)) : ND P w H' d kvs := by
  obtain ⟨xs, h1, h2⟩ := h
  exact ⟨xs, hd _ h1, Paired.mapP h2 fun _ _ z => ⟨z.1, HV.on e _ _ z.2.1, z.2.2⟩⟩
section
variable {X : Cx} {pins : List (Addr × Obj)} {σ : L2.St} {H : Hp} {s : Shared} {a : Addr} {A : Around} {E : Value → Shared → Prop}
theorem nd_of {kvs : List (NestedKey × V)} (I : Inv X pins σ H s) (h : ND X.prog X.w H a kvs) : kvs.length ≤ sizeLine ∧ (a == sysModules) = false ∧ ∃ xs, H a = some (NDO X.prog X.w a xs) ∧ Paired (NEnt H) kvs xs ∧ s.heap.DictOfH (nestedKind X.prog X.w) a xs := by
  obtain ⟨xs, h1, h2⟩ := h
  obtain ⟨⟨z, y, o, es, ep, g1, g2, g3, g4, g5⟩, _⟩ := I.hok a _ h1
  refine ⟨by rw [Paired.length h2]; exact z, y, xs, h1, h2, o, es, ep, g1, g2, g3, g4, ?_, g5⟩
  have all : ∀ {l : List (NestedKey × V)} {m : List (NestedKey × Addr × Value)}, Paired (NEnt H) l m → ∀ x ∈ m, (nestedKind X.prog X.w).is s.heap x.1 x.2.1 := by
    intro l m q
    induction q with
    | nil => intro x hx; exact nomatch hx
    | @cons p q ps qs hq t ih =>
      intro x hx
      rcases List.mem_cons.mp hx with e | hx
      · subst e
        obtain ⟨e1, e2, e3, _⟩ := hq
        rw [← e1]
        exact ⟨hv_is I.hok _ _ _ e2 rfl, e3⟩
      · exact ih x hx
  exact all h2
theorem nd_getItem {kvs : List (NestedKey × V)} {k : NestedKey} {b : Addr} {v : V} {Q : Value → Shared → Prop} (hu : A.units + 9 < cLine) (I : Inv X pins σ H s) (g : ND X.prog X.w H a kvs) (hk : HV H k (.ref b)) (hd8 : k.depth ≤ 8) (l : valN kvs k = some v) (h : ∀ w' s', Inv X pins σ H s' → RelV v w' → Q w' s') :
    wpAny (model X.prog X.w) A (getItem (.ref a) (.ref b)) Q E s := by
  obtain ⟨z, hd, xs, e, rel, dd⟩ := nd_of I g
  obtain ⟨w', hw, rw'⟩ := RelO.some_of (v := v) (o := (atKey xs k).map (·.2)) (by rw [← l]; exact nd_val rel k)
  obtain ⟨p, hp, hp2⟩ := Option.map_eq_some_iff.mp hw
  refine wpAny_getItem_heap (knd := nestedKind X.prog X.w) (by show A.in1.units + 8 < cLine; rw [Around.in1_units]; omega) ⟨hv_is I.hok _ _ _ hk rfl, hd8⟩ dd hp ?_
  rw [hp2]
  exact h w' _ (I.tok _) rw'
theorem nd_notIn {kvs : List (NestedKey × V)} {k : NestedKey} {b : Addr} {Q : Value → Shared → Prop} (hu : A.units + 9 < cLine) (I : Inv X pins σ H s) (g : ND X.prog X.w H a kvs) (hk : HV H k (.ref b)) (hd8 : k.depth ≤ 8) (h : ∀ s', Inv X pins σ H s' → Q (.bool (!(valN kvs k).isSome)) s') :
    wpAny (model X.prog X.w) A (compareOp .NotIn (.ref b) (.ref a)) Q E s := by
  obtain ⟨z, hd, xs, e, rel, dd⟩ := nd_of I g
  refine wpAny_notIn_heap (knd := nestedKind X.prog X.w) (by show A.in1.units + 8 < cLine; rw [Around.in1_units]; omega) ⟨hv_is I.hok _ _ _ hk rfl, hd8⟩ hd dd ?_
  have q := (nd_val rel k).isSome_eq
  rw [Option.isSome_map] at q
  rw [← q]
  exact h _ (I.tok _)
theorem paired_snoc {α β : Type} {R : α → β → Prop} {xs : List α} {ys : List β} {x : α} {y : β} (h : Paired R xs ys) (r : R x y) : Paired R (xs ++ [x]) (ys ++ [y]) := by
  induction h with
  | nil => exact .cons r .nil
  | cons q t ih => exact .cons q ih
/-- d[k] = v of a key that isn't there -/
theorem nd_setNew {kvs : List (NestedKey × V)} {k : NestedKey} {b : Addr} {v : V} {r : Value} {Q : Unit → Shared → Prop} (hu : A.units + 9 < cLine) (I : Inv X pins σ H s) (g : ND X.prog X.w H a kvs) (hk : HV H k (.ref b)) (hd8 : k.depth ≤ 8) (l : valN kvs k = none) (hl : kvs.length < sizeLine) (rv : RelV v r)
    (h : ∀ s' xs, Inv X pins σ (upd H a (NDO X.prog X.w a xs)) s' → ND X.prog X.w (upd H a (NDO X.prog X.w a xs)) a (kvs ++ [(k, v)]) → Q () s') :
    wpAny (model X.prog X.w) A (setItem (.ref a) (.ref b) r) Q E s := by
  obtain ⟨z, hd, xs, e, rel, dd⟩ := nd_of I g
  have hz : xs.length ≤ sizeLine := by rw [← Paired.length rel]; exact z
  have hno : atKey xs k = none := by
    have q := (nd_val rel k).isSome_eq
    rw [l, Option.isSome_map] at q
    cases hq : atKey xs k with
    | none => rfl
    | some p => rw [hq] at q; cases q
  refine wpAny_setItem_heap (hsz := hz) (knd := nestedKind X.prog X.w) (by show A.in1.units + 8 < cLine; rw [Around.in1_units]; omega) ⟨hv_is I.hok _ _ _ hk rfl, hd8⟩ dd fun h' dd' hs => ?_
  rw [storedH_new hno] at dd'
  obtain ⟨q, es, ep, hq, h2, h3, h4, _, h5⟩ := dd'
  have hl2 : (xs ++ [(k, b, r)]).length ≤ sizeLine := by rw [List.length_append, List.length_singleton, ← Paired.length rel]; omega
  have tk : ∀ c ys, H c = some (.tup ys) → upd H a (NDO X.prog X.w a (xs ++ [(k, b, r)])) c = some (.tup ys) := fun c ys ec => by
    rw [upd_ne (ne_of ec e (fun z => nomatch z))]
    exact ec
  refine h _ (xs ++ [(k, b, r)]) (d_write I (by rw [e]; exact True.intro) hs ⟨q, hq⟩ ⟨⟨hl2, hd, q, es, ep, hq, h2, h3, h4, h5⟩, ⟨q, hq⟩, ?_⟩) ⟨_, upd_same, paired_snoc (Paired.mapP rel fun _ _ z => ⟨z.1, HV.on tk _ _ z.2.1, z.2.2⟩) ⟨rfl, HV.on tk _ _ hk, hd8, rv⟩⟩
  rintro h1 h2 ⟨y1, y2, o, es, ep, g1, g2⟩ hk
  exact ⟨y1, y2, o, es, ep, hk o g1, g2⟩
end
/-! ### readings and rules -/
def tNGet (P : Program) (w : World) (td ty : TE) : TE := fun σ H Q => td σ H fun x H1 => ty σ H1 fun y H2 => ∃ a b kvs k v, x = .ref a ∧ y = .ref b ∧ ND P w H2 a kvs ∧ HV H2 k (.ref b) ∧ k.depth ≤ 8 ∧ valN kvs k = some v ∧ Q v H2
def tNNotIn (P : Program) (w : World) (ty td : TE) : TE := fun σ H Q => ty σ H fun y H1 => td σ H1 fun x H2 => ∃ a b kvs k, x = .ref a ∧ y = .ref b ∧ ND P w H2 a kvs ∧ HV H2 k (.ref b) ∧ k.depth ≤ 8 ∧ Q (.bl (!(valN kvs k).isSome)) H2
def sNPut (P : Program) (w : World) (td ty tv : TE) : TS := fun D σ H => tv σ H fun v H1 => td σ H1 fun x H2 => ty σ H2 fun y H3 => ∃ a b kvs k, x = .ref a ∧ y = .ref b ∧ ND P w H3 a kvs ∧ HV H3 k (.ref b) ∧ k.depth ≤ 8 ∧ valN kvs k = none ∧ kvs.length < sizeLine ∧
  ∀ xs, ND P w (upd H3 a (NDO P w a xs)) a (kvs ++ [(k, v)]) → D.nx σ (upd H3 a (NDO P w a xs))
section
variable {X : Cx} {o i e value : Expr} {pos pos' tpos : Pos} {td ty tv : TE}
theorem pe_nget (hu : X.A.units + 9 < cLine) (ho : PE X o td) (hi : PE X i ty) (hs : NoSl i) : PE X (.Subscript o i pos) (tNGet X.prog X.w td ty) := by
  refine ⟨fun pins s σ H Q I h => ?_⟩
  refine subD_of PySem.F.slot_dict_getitem.lookup hs (thn (ho.run pins s σ H _ I h) fun u s1 ⟨x, H1, I1, rx, q1⟩ => thn (hi.run pins s1 σ H1 _ I1 q1) fun iv s2 ⟨y, H2, I2, ry, a, b, kvs, k, v, ex, ey, g, hk, hd8, l, q2⟩ => ?_)
  subst ex ey
  obtain rfl : u = Value.ref a := rx
  obtain rfl : iv = Value.ref b := ry
  obtain ⟨_, _, _, _, _, dd⟩ := nd_of I2 g
  exact ⟨dd.typeIs, nd_getItem hu I2 g hk hd8 l fun w' s3 I3 rw' => ⟨v, H2, I3, rw', q2⟩⟩
theorem pc_nnotin (hu : X.A.units + 9 < cLine) (hi : PE X i ty) (ho : PE X o td) : PC X .NotIn i o (tNNotIn X.prog X.w ty td) := by
  refine ⟨fun pins s σ H Q I h => ?_⟩
  refine thn (hi.run pins s σ H _ I h) fun iv s1 ⟨y, H1, I1, ry, q1⟩ => thn (ho.run pins s1 σ H1 _ I1 q1) fun u s2 ⟨x, H2, I2, rx, a, b, kvs, k, ex, ey, g, hk, hd8, q2⟩ => ?_
  subst ex ey
  obtain rfl : u = Value.ref a := rx
  obtain rfl : iv = Value.ref b := ry
  exact nd_notIn hu I2 g hk hd8 fun s3 I3 => ⟨.bl (!(valN kvs k).isSome), H2, I3, rfl, q2⟩
theorem ps_nput (hu : X.A.units + 9 < cLine) (ho : PE X o td) (hi : PE X i ty) (hv : PE X value tv) (hs : swapsWith value (some (.Subscript o i pos')) pos.line X.env = pure false) :
    PS X (.Assign [.Subscript o i pos'] value pos) (sNPut X.prog X.w td ty tv) := by
  refine ⟨fun pins s σ H D I h => ?_⟩
  refine wpAny_Assign_Subscript (thn (hv.run pins s σ H _ I h) fun r s1 ⟨v, H1, I1, rv, q1⟩ => thn (ho.run pins s1 σ H1 _ I1 q1) fun u s2 ⟨x, H2, I2, rx, q2⟩ => thn (hi.run pins s2 σ H2 _ I2 q2) fun iv s3 ⟨y, H3, I3, ry, a, b, kvs, k, ex, ey, g, hk, hd8, l, hl, q3⟩ => ?_) hs
  subst ex ey
  obtain rfl : u = Value.ref a := rx
  obtain rfl : iv = Value.ref b := ry
  exact nd_setNew hu I3 g hk hd8 l hl rv fun s4 xs I4 g4 => ⟨σ, _, I4, q3 xs g4⟩
end
/-! ### {} -/
def tNNew (P : Program) (w : World) : TE := fun _ H Q => ∀ p, H p = none → Q (.ref p) (upd H p (NDO P w p []))
theorem ndo_empty {P : Program} {w : World} {H : Hp} (h : Heap) (hb : sysModules < h.objs.size) : ObjOk P w H (h.push { cls := .type "dict", data := .dict #[] }) h.objs.size (NDO P w h.objs.size []) := by
  refine ⟨⟨Nat.zero_le _, beq_eq_false_iff_ne.mpr (Ne.symm (Nat.ne_of_lt hb)), _, #[], 0, Heap.get?_push_size _ rfl, ⟨rfl, rfl, rfl⟩, rfl, rfl, List.nodup_nil⟩, ⟨_, Heap.get?_push_size _ rfl⟩, ?_⟩
  rintro h1 h2 ⟨y1, y2, o, es, ep, g1, g2⟩ hk
  exact ⟨y1, y2, o, es, ep, hk o g1, g2⟩
theorem pe_nnew {X : Cx} {pos : Pos} : PE X (.Dict [] [] pos) (tNNew X.prog X.w) := ⟨fun pins s σ H Q I h =>
  wpAny_Dict_empty ⟨.ref s.heap.objs.size, _, I.laid (a := s.heap.objs.size) (o := NDO X.prog X.w s.heap.objs.size []) (t' := s.toks) (fun _ _ q => Heap.get?_push_of_some _ q) (Nat.le_refl _) (ndo_empty s.heap I.big), rfl, h _ (I.hok.fresh (Nat.le_refl _))⟩⟩
theorem nd_empty {P : Program} {w : World} {H : Hp} {d : Addr} (h : H d = some (NDO P w d [])) : ND P w H d [] := ⟨[], h, .nil⟩
end Ag

set_option maxRecDepth 100000
set_option maxHeartbeats 2000000
namespace Ag
open Sw War
/-! # Kinds in a table; what two of them agree on -/
abbrev Wk := War.K
abbrev Wr := War.KRow
def bNothing : Bytes := ascii "nothing"
/-- the words of the plain kinds, and the kinds -/
def wlK : List (Bytes × Wk) := [(ascii "yesno", .plain 0), (ascii "number", .plain 1), (ascii "bytes", .plain 2), (ascii "text", .plain 3), (ascii "moment", .plain 4), (ascii "id", .plain 5), (bNothing, .nothing)]
/-- a row of the table -/
inductive Rw where
  | word (b : Bytes)
  | list (k : Nat)
  | rcd (ns : List Bytes) (ks : List Nat)
  | sort (m n : Bytes)
deriving DecidableEq
/-- a later table -/
def Pre (T T' : List Rw) : Prop := ∀ (i : Nat) r, T[i]? = some r → T'[i]? = some r
theorem Pre.refl (T : List Rw) : Pre T T := fun _ _ h => h
theorem Pre.trans {T T' T'' : List Rw} (a : Pre T T') (b : Pre T' T'') : Pre T T'' := fun i r h => b i r (a i r h)
theorem Pre.snoc (T : List Rw) (r : Rw) : Pre T (T ++ [r]) := fun i r' h => by
  rw [List.getElem?_append_left (List.getElem?_eq_some_iff.mp h).1]
  exact h
mutual
/-- the kind that a row's number means -/
inductive Den (T : List Rw) : Nat → Wk → Prop
  | word {i : Nat} {b : Bytes} {k : Wk} : T[i]? = some (.word b) → (b, k) ∈ wlK → Den T i k
  | list {i j : Nat} {k : Wk} : T[i]? = some (.list j) → Den T j k → Den T i (.list k)
  | rcd {i : Nat} {ns : List Bytes} {ks : List Nat} {l : Wr} : T[i]? = some (.rcd ns ks) → DenR T ns ks l → Den T i (.record l)
  | sort {i : Nat} {m n : Bytes} : T[i]? = some (.sort m n) → Den T i (.sort m n)
inductive DenR (T : List Rw) : List Bytes → List Nat → Wr → Prop
  | nil : DenR T [] [] .nil
  | cons {n : Bytes} {k : Nat} {ns : List Bytes} {ks : List Nat} {x : Wk} {l : Wr} : Den T k x → DenR T ns ks l → DenR T (n :: ns) (k :: ks) (.cons n x l)
end
mutual
theorem Den.mono {T T' : List Rw} (h : Pre T T') : ∀ {i : Nat} {k : Wk}, Den T i k → Den T' i k
  | _, _, .word e m => .word (h _ _ e) m
  | _, _, .list e d => .list (h _ _ e) (Den.mono h d)
  | _, _, .rcd e d => .rcd (h _ _ e) (DenR.mono h d)
  | _, _, .sort e => .sort (h _ _ e)
theorem DenR.mono {T T' : List Rw} (h : Pre T T') : ∀ {ns : List Bytes} {ks : List Nat} {l : Wr}, DenR T ns ks l → DenR T' ns ks l
  | _, _, _, .nil => .nil
  | _, _, _, .cons d r => .cons (Den.mono h d) (DenR.mono h r)
end
theorem wlK_nodup : (wlK.map (·.1)).Nodup := by decide +kernel
theorem wlK_fun {b : Bytes} {k k' : Wk} (h : (b, k) ∈ wlK) (h' : (b, k') ∈ wlK) : k = k' := by
  unfold wlK at h h'
  simp only [List.mem_cons, List.not_mem_nil, or_false, Prod.mk.injEq] at h h'
  rcases h with ⟨rfl, rfl⟩ | ⟨rfl, rfl⟩ | ⟨rfl, rfl⟩ | ⟨rfl, rfl⟩ | ⟨rfl, rfl⟩ | ⟨rfl, rfl⟩ | ⟨rfl, rfl⟩ <;>
  rcases h' with ⟨e, rfl⟩ | ⟨e, rfl⟩ | ⟨e, rfl⟩ | ⟨e, rfl⟩ | ⟨e, rfl⟩ | ⟨e, rfl⟩ | ⟨e, rfl⟩ <;> first | rfl | exact absurd e (by decide +kernel)
/-- so far as the words: plain, or nothing -/
theorem wlK_kind {b : Bytes} {k : Wk} (h : (b, k) ∈ wlK) : (∃ n, k = .plain n) ∨ k = .nothing := by
  unfold wlK at h
  simp only [List.mem_cons, List.not_mem_nil, or_false, Prod.mk.injEq] at h
  rcases h with ⟨rfl, rfl⟩ | ⟨rfl, rfl⟩ | ⟨rfl, rfl⟩ | ⟨rfl, rfl⟩ | ⟨rfl, rfl⟩ | ⟨rfl, rfl⟩ | ⟨rfl, rfl⟩
  · exact .inl ⟨_, rfl⟩
  · exact .inl ⟨_, rfl⟩
  · exact .inl ⟨_, rfl⟩
  · exact .inl ⟨_, rfl⟩
  · exact .inl ⟨_, rfl⟩
  · exact .inl ⟨_, rfl⟩
  · exact .inr rfl
/-- of one kind, of one word -/
theorem wlK_inj {b b' : Bytes} {k : Wk} (h : (b, k) ∈ wlK) (h' : (b', k) ∈ wlK) : b = b' := by
  unfold wlK at h h'
  simp only [List.mem_cons, List.not_mem_nil, or_false, Prod.mk.injEq] at h h'
  rcases h with ⟨rfl, rfl⟩ | ⟨rfl, rfl⟩ | ⟨rfl, rfl⟩ | ⟨rfl, rfl⟩ | ⟨rfl, rfl⟩ | ⟨rfl, rfl⟩ | ⟨rfl, rfl⟩ <;>
  rcases h' with ⟨rfl, e⟩ | ⟨rfl, e⟩ | ⟨rfl, e⟩ | ⟨rfl, e⟩ | ⟨rfl, e⟩ | ⟨rfl, e⟩ | ⟨rfl, e⟩ <;> first | rfl | cases e
mutual
theorem Den.fn {T : List Rw} : ∀ {i : Nat} {k k' : Wk}, Den T i k → Den T i k' → k = k'
  | i, _, k', .word e m, d => by
    cases d with
    | word e' m' =>
      rw [e] at e'
      cases e'
      exact wlK_fun m m'
    | list e' _ => rw [e] at e'; cases e'
    | rcd e' _ => rw [e] at e'; cases e'
    | sort e' => rw [e] at e'; cases e'
  | i, _, k', .list e d1, d => by
    cases d with
    | word e' m' => rw [e] at e'; cases e'
    | list e' d2 =>
      rw [e] at e'
      cases e'
      rw [Den.fn d1 d2]
    | rcd e' _ => rw [e] at e'; cases e'
    | sort e' => rw [e] at e'; cases e'
  | i, _, k', .rcd e d1, d => by
    cases d with
    | word e' m' => rw [e] at e'; cases e'
    | list e' _ => rw [e] at e'; cases e'
    | rcd e' d2 =>
      rw [e] at e'
      cases e'
      rw [DenR.fn d1 d2]
    | sort e' => rw [e] at e'; cases e'
  | i, _, k', .sort e, d => by
    cases d with
    | word e' m' => rw [e] at e'; cases e'
    | list e' _ => rw [e] at e'; cases e'
    | rcd e' _ => rw [e] at e'; cases e'
    | sort e' => rw [e] at e'; cases e'; rfl
theorem DenR.fn {T : List Rw} : ∀ {ns : List Bytes} {ks : List Nat} {l l' : Wr}, DenR T ns ks l → DenR T ns ks l' → l = l'
  | _, _, _, _, .nil, d => by cases d; rfl
  | _, _, _, _, .cons d1 r1, d => by
    cases d with
    | cons d2 r2 => rw [Den.fn d1 d2, DenR.fn r1 r2]
end
theorem DenR.len {T : List Rw} : ∀ {ns : List Bytes} {ks : List Nat} {l : Wr}, DenR T ns ks l → ns.length = ks.length
  | _, _, _, .nil => rfl
  | _, _, _, .cons _ r => by rw [List.length_cons, List.length_cons, DenR.len r]
/-! ## the table's functions -/
/-- where a row stands -/
def pos : List Rw → Rw → Option Nat
  | [], _ => none
  | t :: r, x => if t = x then some 0 else (pos r x).map (· + 1)
theorem pos_some : ∀ {T : List Rw} {r : Rw} {i : Nat}, pos T r = some i → T[i]? = some r
  | t :: T, r, i, h => by
    unfold pos at h
    split at h
    · rename_i e
      cases h
      rw [e]; rfl
    · obtain ⟨j, hj, rfl⟩ := Option.map_eq_some_iff.mp h
      show T[j]? = some r
      exact pos_some hj
theorem pos_none : ∀ {T : List Rw} {r : Rw}, pos T r = none → r ∉ T
  | [], _, _ => by simp
  | t :: T, r, h => by
    unfold pos at h
    split at h
    · cases h
    · rename_i e
      rw [List.mem_cons, not_or]
      exact ⟨fun z => e z.symm, pos_none (Option.map_eq_none_iff.mp h)⟩
def putT (T : List Rw) (r : Rw) : List Rw := match pos T r with
  | some _ => T
  | none => T ++ [r]
def putN (T : List Rw) (r : Rw) : Nat := (pos T r).getD T.length
theorem putT_at (T : List Rw) (r : Rw) : (putT T r)[putN T r]? = some r := by
  unfold putT putN
  cases h : pos T r with
  | some i => exact pos_some h
  | none =>
    show (T ++ [r])[T.length]? = some r
    rw [List.getElem?_append_right (Nat.le_refl _), Nat.sub_self]
    rfl
theorem put_pre (T : List Rw) (r : Rw) : Pre T (putT T r) := by
  unfold putT
  cases h : pos T r with
  | some i => exact Pre.refl T
  | none => exact Pre.snoc T r
theorem put_len (T : List Rw) (r : Rw) : (putT T r).length ≤ T.length + 1 := by
  unfold putT
  cases h : pos T r with
  | some i => exact Nat.le_succ _
  | none => rw [List.length_append, List.length_singleton]; exact Nat.le_refl _
theorem put_nodup {T : List Rw} {r : Rw} (h : T.Nodup) : (putT T r).Nodup := by
  unfold putT
  cases e : pos T r with
  | some i => exact h
  | none =>
    refine List.nodup_append.mpr ⟨h, (by simp), fun a ha b hb => ?_⟩
    rw [List.mem_singleton.mp hb]
    exact fun z => pos_none e (z ▸ ha)
/-- a row as it may be -/
def RwOk : Rw → Prop
  | .word b => ∃ k, (b, k) ∈ wlK
  | .list _ => True
  | .rcd ns ks => (∀ n ∈ ns, War.isName n = true) ∧ ns.length = ks.length ∧ ns.length ≤ 100000
  | .sort m n => War.isName m = true ∧ War.isName n = true
/-- a table of kinds -/
structure Tab (T : List Rw) : Prop where
  nd : T.Nodup
  none : T[6]? = some (.word bNothing)
  rows : ∀ r ∈ T, RwOk r
theorem Tab.put {T : List Rw} {r : Rw} (h : Tab T) (hr : RwOk r) : Tab (putT T r) := by
  refine ⟨put_nodup h.nd, put_pre T r _ _ h.none, fun b hb => ?_⟩
  unfold putT at hb
  cases e : pos T r with
  | some i => rw [e] at hb; exact h.rows b hb
  | none =>
    rw [e] at hb
    rcases List.mem_append.mp hb with hb | hb
    · exact h.rows b hb
    · rw [List.mem_singleton.mp hb]; exact hr
theorem at_inj {T : List Rw} (h : T.Nodup) {i j : Nat} {r : Rw} (hi : T[i]? = some r) (hj : T[j]? = some r) : i = j :=
  (List.getElem?_inj (List.getElem?_eq_some_iff.mp hi).1 h).mp (hi.trans hj.symm)
theorem Tab.nothing {T : List Rw} (h : Tab T) {i : Nat} : Den T i .nothing ↔ i = 6 := by
  constructor
  · intro d
    cases d with
    | word e m =>
      have : (bNothing, (War.K.nothing : Wk)) ∈ wlK := by unfold wlK; simp
      have hb := wlK_inj m this
      subst hb
      exact at_inj h.nd e h.none
  · rintro rfl
    exact .word h.none (by unfold wlK; simp)
/-! ## what two rows ask of the pairs below -/
def below (T : List Rw) (i j : Nat) : List (Nat × Nat) := if i = j then [] else match T[i]?, T[j]? with
  | some (.list a), some (.list b) => [(a, b)]
  | some (.rcd ns ks), some (.rcd ms ls) => if ns = ms then ks.zip ls else []
  | _, _ => []
/-- what's known of pairs; none: they don't agree -/
abbrev Agd := List ((Nat × Nat) × Option Nat)
def ask (A : Agd) (p : Nat × Nat) : Option (Option Nat) := (A.find? fun e => decide (e.1 = p)).map (·.2)
theorem ask_snoc {A : Agd} {p q : Nat × Nat} {c : Option Nat} (h : ask A p = none) : ask (A ++ [(p, c)]) q = if q = p then some c else ask A q := by
  unfold ask at h ⊢
  rw [List.find?_append]
  by_cases e : q = p
  · subst e
    rw [if_pos rfl, Option.map_eq_none_iff.mp h]
    simp
  · rw [if_neg e]
    cases hq : A.find? fun e => decide (e.1 = q) with
    | some v => rfl
    | none => simp [Ne.symm e]
def Ext (A A' : Agd) : Prop := ∀ p c, ask A p = some c → ask A' p = some c
theorem Ext.refl (A : Agd) : Ext A A := fun _ _ h => h
theorem Ext.trans {A A' A'' : Agd} (a : Ext A A') (b : Ext A' A'') : Ext A A'' := fun p c h => b p c (a p c h)
theorem Ext.snoc {A : Agd} {p : Nat × Nat} {c : Option Nat} (h : ask A p = none) : Ext A (A ++ [(p, c)]) := fun q d hq => by
  rw [ask_snoc h]
  by_cases e : q = p
  · rw [e, h] at hq; cases hq
  · rw [if_neg e]; exact hq
/-- the parts known -/
def parts (A : Agd) (l : List (Nat × Nat)) : List (Option Nat) := l.map fun p => (ask A p).getD none
def joinRow (T : List Rw) (A : Agd) (i j : Nat) : Option Rw :=
  let ps := parts A (below T i j)
  if ps = [] ∨ none ∈ ps then none else match T[i]? with
  | some (.list _) => some (.list ((ps.headD none).getD 0))
  | some (.rcd ns _) => some (.rcd ns (ps.map fun p => p.getD 0))
  | _ => none
/-- what the two of a pair agree on, the table behind it -/
def joined (T : List Rw) (A : Agd) (i j : Nat) : Option Nat × List Rw :=
  if i = j ∨ j = 6 then (some i, T) else if i = 6 then (some j, T) else match joinRow T A i j with
  | none => (none, T)
  | some r => (some (putN T r), putT T r)
/-- what's known of a pair is right -/
def Right (T : List Rw) (p : Nat × Nat) (c : Option Nat) : Prop := ∀ x y, Den T p.1 x → Den T p.2 y → match c with
  | none => x.agree y = none
  | some n => ∃ k, x.agree y = some k ∧ Den T n k
structure Good (T : List Rw) (A : Agd) : Prop where
  tab : Tab T
  right : ∀ p c, ask A p = some c → Right T p c ∧ (∃ x, Den T p.1 x) ∧ ∃ y, Den T p.2 y
structure CS where
  T : List Rw
  A : Agd
  todo : List (Nat × Nat)
/-- a turn of common's loop; the top stands first -/
def stepC (s : CS) : CS := match s.todo with
  | [] => s
  | (i, j) :: r => if (ask s.A (i, j)).isSome then { s with todo := r } else
    let w := (below s.T i j).filter fun p => (ask s.A p).isNone
    if w = [] then ⟨(joined s.T s.A i j).2, s.A ++ [((i, j), (joined s.T s.A i j).1)], (i, j) :: r⟩ else { s with todo := w.reverse ++ (i, j) :: r }
/-- so many turns, all within the bound -/
def Goes (B : Nat) : Nat → CS → CS → Prop
  | 0, s, s' => s = s'
  | m + 1, s, s' => (∃ i j r, s.todo = (i, j) :: r ∧ (∃ x, Den s.T i x) ∧ ∃ y, Den s.T j y) ∧ Good s.T s.A ∧ s.todo.length ≤ B ∧ s.T.length < B ∧ s.A.length < B ∧ Goes B m (stepC s) s'
theorem Goes.trans {B : Nat} : ∀ {m n : Nat} {a b c : CS}, Goes B m a b → Goes B n b c → Goes B (m + n) a c
  | 0, n, a, b, c, h, k => by rw [Nat.zero_add, show a = b from h]; exact k
  | m + 1, n, a, b, c, ⟨h1, h2, h3, h4, h5, h6⟩, k => by
    rw [Nat.succ_add]
    exact ⟨h1, h2, h3, h4, h5, Goes.trans h6 k⟩
theorem Right.mono {T T' : List Rw} {p : Nat × Nat} {c : Option Nat} (h : Pre T T') (hr : Right T p c) {x y : Wk} (dx : Den T p.1 x) (dy : Den T p.2 y) : Right T' p c := fun x' y' dx' dy' => by
  have e1 := Den.fn dx' (dx.mono h)
  have e2 := Den.fn dy' (dy.mono h)
  subst e1 e2
  have := hr _ _ dx dy
  cases c with
  | none => exact this
  | some n =>
    obtain ⟨k, h1, h2⟩ := this
    exact ⟨k, h1, h2.mono h⟩
theorem Good.mono {T T' : List Rw} {A : Agd} (h : Pre T T') (ht : Tab T') (g : Good T A) : Good T' A := ⟨ht, fun p c hp => by
  obtain ⟨h1, ⟨x, hx⟩, y, hy⟩ := g.right p c hp
  exact ⟨h1.mono h hx hy, ⟨x, hx.mono h⟩, y, hy.mono h⟩⟩
mutual
def size : Wk → Nat
  | .list k => size k + 1
  | .record l => sizes l + 1
  | _ => 1
def sizes : Wr → Nat
  | .nil => 0
  | .cons _ k r => size k + sizes r
end
theorem size_pos : ∀ k : Wk, 1 ≤ size k
  | .list k => by unfold size; omega
  | .record l => by unfold size; omega
  | .plain _ => by unfold size; omega
  | .sort _ _ => by unfold size; omega
  | .nothing => by unfold size; omega
mutual
theorem agree_self : ∀ k : Wk, k.agree k = some k
  | .plain a => by simp [War.K.agree]
  | .list k => by simp [War.K.agree, agree_self k]
  | .record l => by simp [War.K.agree, agreeR_self l]
  | .sort m n => by simp [War.K.agree]
  | .nothing => by simp [War.K.agree]
theorem agreeR_self : ∀ l : Wr, l.agree l = some l
  | .nil => by simp [War.KRow.agree]
  | .cons n k r => by simp [War.KRow.agree, agree_self k, agreeR_self r]
end
theorem agree_nothing : ∀ k : Wk, k.agree .nothing = some k
  | .plain a => by simp [War.K.agree]
  | .list k => by simp [War.K.agree]
  | .record l => by simp [War.K.agree]
  | .sort m n => by simp [War.K.agree]
  | .nothing => by simp [War.K.agree]
end Ag

set_option maxRecDepth 100000
set_option maxHeartbeats 4000000
namespace Ag
open Sw War
/-! # What joined says is right -/
theorem agreeR_names : ∀ {l m k : Wr}, l.agree m = some k → l.names = m.names
  | .nil, .nil, _, _ => rfl
  | .cons n a r, .cons m b s, k, h => by
    unfold War.KRow.agree at h
    split at h
    · rename_i e
      subst e
      split at h
      · cases h
      · obtain ⟨l', hl, _⟩ := Option.map_eq_some_iff.mp h
        show n :: r.names = n :: s.names
        rw [agreeR_names hl]
    · cases h
  | .nil, .cons _ _ _, _, h => by simp [War.KRow.agree] at h
  | .cons _ _ _, .nil, _, h => by simp [War.KRow.agree] at h
theorem DenR.names {T : List Rw} : ∀ {ns : List Bytes} {ks : List Nat} {l : Wr}, DenR T ns ks l → l.names = ns
  | _, _, _, .nil => rfl
  | _, _, _, .cons (n := n) _ r => by
    show n :: War.KRow.names _ = _
    rw [DenR.names r]
theorem parts_right {T : List Rw} {A : Agd} (g : Good T A) : ∀ {ns : List Bytes} {ks ls : List Nat} {l m : Wr}, DenR T ns ks l → DenR T ns ls m → (∀ p ∈ ks.zip ls, (ask A p).isSome = true) →
    (none ∈ parts A (ks.zip ls) → l.agree m = none) ∧ (none ∉ parts A (ks.zip ls) → ∃ k, l.agree m = some k ∧ DenR T ns ((parts A (ks.zip ls)).map fun p => p.getD 0) k)
  | _, _, _, _, _, .nil, .nil, _ => ⟨fun h => by simp [parts] at h, fun _ => ⟨.nil, by simp [War.KRow.agree], .nil⟩⟩
  | _, _, _, _, _, .cons (n := n) (k := k) (ks := ks) (x := x) (l := l) d1 r1, .cons (k := k') (ks := ls) (x := y) (l := m) d2 r2, h => by
    have ih := parts_right g r1 r2 fun p hp => h p (List.mem_cons_of_mem _ hp)
    obtain ⟨c, hc⟩ := Option.isSome_iff_exists.mp (h (k, k') List.mem_cons_self)
    have hr := (g.right _ _ hc).1 x y d1 d2
    have ep : parts A ((k :: ks).zip (k' :: ls)) = c :: parts A (ks.zip ls) := by
      show (ask A (k, k')).getD none :: parts A (ks.zip ls) = _
      rw [hc]
      rfl
    rw [ep]
    have ea : War.KRow.agree (.cons n x l) (.cons n y m) = match x.agree y with
      | none => none
      | some k => (l.agree m).map fun (l : Wr) => .cons n k l := by
      rw [War.KRow.agree, if_pos rfl]
      rfl
    rw [ea]
    cases c with
    | none =>
      rw [show x.agree y = none from hr]
      exact ⟨fun _ => rfl, fun hn => absurd List.mem_cons_self hn⟩
    | some q =>
      obtain ⟨z, hz, dz⟩ := hr
      rw [hz]
      refine ⟨fun hn => ?_, fun hn => ?_⟩
      · rcases List.mem_cons.mp hn with hn | hn
        · cases hn
        · show (l.agree m).map _ = none
          rw [ih.1 hn]
          rfl
      · obtain ⟨l', h1, h2⟩ := ih.2 fun z => hn (List.mem_cons_of_mem _ z)
        refine ⟨.cons n z l', ?_, .cons dz h2⟩
        show (l.agree m).map _ = _
        rw [h1]
        rfl
structure JoinOk (T : List Rw) (i j : Nat) (r : Option Nat × List Rw) : Prop where
  tab : Tab r.2
  pre : Pre T r.2
  len : r.2.length ≤ T.length + 1
  right : Right r.2 (i, j) r.1
theorem joined_ok {T : List Rw} {A : Agd} (g : Good T A) {i j : Nat} {x y : Wk} (dx : Den T i x) (dy : Den T j y) (hb : ∀ p ∈ below T i j, (ask A p).isSome = true) : JoinOk T i j (joined T A i j) := by
  have stay : ∀ c, (match c with
      | none => x.agree y = none
      | some n => ∃ k, x.agree y = some k ∧ Den T n k) → JoinOk T i j (c, T) := fun c hc => ⟨g.tab, Pre.refl T, Nat.le_succ _, fun x' y' d1 d2 => by
    rw [Den.fn d1 dx, Den.fn d2 dy]
    exact hc⟩
  unfold joined
  by_cases h1 : i = j ∨ j = 6
  · rw [if_pos h1]
    refine stay (some i) ⟨x, ?_, dx⟩
    rcases h1 with h | h
    · subst h
      rw [Den.fn dy dx]
      exact agree_self x
    · rw [Den.fn dy (g.tab.nothing.mpr h)]
      exact agree_nothing x
  rw [if_neg h1]
  by_cases h2 : i = 6
  · rw [if_pos h2]
    refine stay (some j) ⟨y, ?_, dy⟩
    rw [Den.fn dx (g.tab.nothing.mpr h2)]
    simp [War.K.agree]
  rw [if_neg h2]
  have hij : i ≠ j := fun z => h1 (.inl z)
  have nx : x ≠ .nothing := fun z => h2 (g.tab.nothing.mp (z ▸ dx))
  have ny : y ≠ .nothing := fun z => h1 (.inr (g.tab.nothing.mp (z ▸ dy)))
  have noB : below T i j = [] → x.agree y = none → JoinOk T i j (match joinRow T A i j with
      | none => (none, T)
      | some r => (some (putN T r), putT T r)) := fun e ea => by
    have : joinRow T A i j = none := by
      unfold joinRow
      rw [e]
      exact if_pos (.inl rfl)
    rw [this]
    exact stay none ea
  have bel : below T i j = match T[i]?, T[j]? with
      | some (.list a), some (.list b) => [(a, b)]
      | some (.rcd ns ks), some (.rcd ms ls) => if ns = ms then ks.zip ls else []
      | _, _ => [] := if_neg hij
  cases dx with
  | word e1 m1 =>
    refine noB (by rw [bel, e1]) ?_
    rcases wlK_kind m1 with ⟨a, rfl⟩ | rfl
    · cases dy with
      | word e2 m2 =>
        rcases wlK_kind m2 with ⟨b, rfl⟩ | rfl
        · simp only [War.K.agree]
          by_cases hab : a = b
          · subst hab
            have := wlK_inj m1 m2
            subst this
            exact absurd (at_inj g.tab.nd e1 e2) hij
          · rw [if_neg hab]
        · exact absurd rfl ny
      | list e2 d2 => simp [War.K.agree]
      | rcd e2 d2 => simp [War.K.agree]
      | sort e2 => simp [War.K.agree]
    · exact absurd rfl nx
  | list e1 d1 =>
    rename_i a xk
    cases dy with
    | word e2 m2 =>
      refine noB (by rw [bel, e1, e2]) ?_
      rcases wlK_kind m2 with ⟨b, rfl⟩ | rfl
      · simp [War.K.agree]
      · exact absurd rfl ny
    | list e2 d2 =>
      rename_i b yk
      have eb : below T i j = [(a, b)] := by rw [bel, e1, e2]
      rw [eb] at hb
      obtain ⟨c, hc⟩ := Option.isSome_iff_exists.mp (hb (a, b) (by simp))
      have hr := (g.right _ _ hc).1 xk yk d1 d2
      have ep : parts A (below T i j) = [c] := by
        rw [eb]
        show [(ask A (a, b)).getD none] = _
        rw [hc]
        rfl
      cases c with
      | none =>
        have : joinRow T A i j = none := by
          unfold joinRow
          rw [ep]
          exact if_pos (.inr (by simp))
        rw [this]
        refine stay none ?_
        show War.K.agree (.list xk) (.list yk) = none
        simp only [War.K.agree]
        rw [show xk.agree yk = none from hr]
        rfl
      | some n =>
        have : joinRow T A i j = some (.list n) := by
          unfold joinRow
          rw [ep, e1]
          exact if_neg (by simp)
        rw [this]
        obtain ⟨k, hk, dk⟩ := hr
        refine ⟨g.tab.put trivial, put_pre T _, put_len T _, fun x' y' d1' d2' => ?_⟩
        rw [Den.fn d1' ((Den.list e1 d1).mono (put_pre T _)), Den.fn d2' ((Den.list e2 d2).mono (put_pre T _))]
        refine ⟨.list k, ?_, .list (putT_at T _) (dk.mono (put_pre T _))⟩
        simp only [War.K.agree]
        rw [hk]
        rfl
    | rcd e2 d2 => exact noB (by rw [bel, e1, e2]) (by simp [War.K.agree])
    | sort e2 => exact noB (by rw [bel, e1, e2]) (by simp [War.K.agree])
  | rcd e1 d1 =>
    rename_i ns ks l
    cases dy with
    | word e2 m2 =>
      refine noB (by rw [bel, e1, e2]) ?_
      rcases wlK_kind m2 with ⟨b, rfl⟩ | rfl
      · simp [War.K.agree]
      · exact absurd rfl ny
    | list e2 d2 => exact noB (by rw [bel, e1, e2]) (by simp [War.K.agree])
    | rcd e2 d2 =>
      rename_i ms ls m
      by_cases hn : ns = ms
      · subst hn
        have eb : below T i j = ks.zip ls := by rw [bel, e1, e2]; exact if_pos rfl
        rw [eb] at hb
        have pr := parts_right g d1 d2 hb
        by_cases hp : none ∈ parts A (ks.zip ls)
        · have : joinRow T A i j = none := by
            unfold joinRow
            rw [eb]
            exact if_pos (.inr hp)
          rw [this]
          refine stay none ?_
          show War.K.agree (.record l) (.record m) = none
          simp only [War.K.agree]
          rw [pr.1 hp]
          rfl
        · by_cases h0 : parts A (ks.zip ls) = []
          · exfalso
            have hz : ks.zip ls = [] := List.map_eq_nil_iff.mp h0
            have l1 := DenR.len d1
            have l2 := DenR.len d2
            have : ks = [] ∧ ls = [] := by
              rcases List.zip_eq_nil_iff.mp hz with z | z
              · subst z
                refine ⟨rfl, List.length_eq_zero_iff.mp ?_⟩
                rw [← l2, l1]; rfl
              · subst z
                refine ⟨List.length_eq_zero_iff.mp ?_, rfl⟩
                rw [← l1, l2]; rfl
            obtain ⟨rfl, rfl⟩ := this
            exact hij (at_inj g.tab.nd e1 e2)
          · have : joinRow T A i j = some (.rcd ns ((parts A (ks.zip ls)).map fun p => p.getD 0)) := by
              unfold joinRow
              rw [eb, e1]
              exact if_neg fun z => z.elim h0 hp
            rw [this]
            obtain ⟨k, hk, dk⟩ := pr.2 hp
            have ok1 : RwOk (.rcd ns ks) := g.tab.rows _ (List.mem_of_getElem? e1)
            refine ⟨g.tab.put ⟨ok1.1, DenR.len dk, ok1.2.2⟩, put_pre T _, put_len T _, fun x' y' d1' d2' => ?_⟩
            rw [Den.fn d1' ((Den.rcd e1 d1).mono (put_pre T _)), Den.fn d2' ((Den.rcd e2 d2).mono (put_pre T _))]
            refine ⟨.record k, ?_, .rcd (putT_at T _) (dk.mono (put_pre T _))⟩
            simp only [War.K.agree]
            rw [hk]
            rfl
      · refine noB (by rw [bel, e1, e2]; exact if_neg hn) ?_
        show War.K.agree (.record l) (.record m) = none
        simp only [War.K.agree]
        cases h : l.agree m with
        | none => rfl
        | some k =>
          have := agreeR_names h
          rw [DenR.names d1, DenR.names d2] at this
          exact absurd this hn
    | sort e2 => exact noB (by rw [bel, e1, e2]) (by simp [War.K.agree])
  | sort e1 =>
    rename_i m1 n1
    cases dy with
    | word e2 m2 =>
      refine noB (by rw [bel, e1]) ?_
      rcases wlK_kind m2 with ⟨b, rfl⟩ | rfl
      · simp [War.K.agree]
      · exact absurd rfl ny
    | list e2 d2 => exact noB (by rw [bel, e1]) (by simp [War.K.agree])
    | rcd e2 d2 => exact noB (by rw [bel, e1]) (by simp [War.K.agree])
    | sort e2 =>
      refine noB (by rw [bel, e1]) ?_
      simp only [War.K.agree]
      refine if_neg ?_
      rintro ⟨rfl, rfl⟩
      exact hij (at_inj g.tab.nd e1 e2)
/-! # common's loop comes to its end -/
theorem stepC_known {s : CS} {i j : Nat} {r : List (Nat × Nat)} (ht : s.todo = (i, j) :: r) (h : (ask s.A (i, j)).isSome = true) : stepC s = { s with todo := r } := by
  unfold stepC
  rw [ht]
  exact if_pos h
theorem below_pre {T T' : List Rw} (h : Pre T T') {i j : Nat} {x y : Wk} (dx : Den T i x) (dy : Den T j y) : below T' i j = below T i j := by
  obtain ⟨r, hr⟩ : ∃ r, T[i]? = some r := by cases dx <;> exact ⟨_, by assumption⟩
  obtain ⟨r', hr'⟩ : ∃ r, T[j]? = some r := by cases dy <;> exact ⟨_, by assumption⟩
  unfold below
  rw [h _ _ hr, h _ _ hr', hr, hr']
structure Ran (B : Nat) (T : List Rw) (A : Agd) (todo base : List (Nat × Nat)) (n : Nat) (T' : List Rw) (A' : Agd) : Prop where
  goes : ∃ m, Goes B m ⟨T, A, todo⟩ ⟨T', A', base⟩
  good : Good T' A'
  pre : Pre T T'
  ext : Ext A A'
  lenT : T'.length ≤ T.length + n
  lenA : A'.length ≤ A.length + n
theorem Ran.trans {B : Nat} {T T1 T2 : List Rw} {A A1 A2 : Agd} {t1 t2 t3 : List (Nat × Nat)} {n m : Nat} (a : Ran B T A t1 t2 n T1 A1) (b : Ran B T1 A1 t2 t3 m T2 A2) : Ran B T A t1 t3 (n + m) T2 A2 := by
  obtain ⟨m1, h1⟩ := a.goes
  obtain ⟨m2, h2⟩ := b.goes
  have := a.lenT
  have := a.lenA
  have := b.lenT
  have := b.lenA
  exact ⟨⟨_, h1.trans h2⟩, b.good, a.pre.trans b.pre, a.ext.trans b.ext, by omega, by omega⟩
theorem Ran.more {B : Nat} {T T1 : List Rw} {A A1 : Agd} {t1 t2 : List (Nat × Nat)} {n m : Nat} (a : Ran B T A t1 t2 n T1 A1) (h : n ≤ m) : Ran B T A t1 t2 m T1 A1 := by
  have := a.lenT
  have := a.lenA
  exact ⟨a.goes, a.good, a.pre, a.ext, by omega, by omega⟩
theorem Ran.refl {B : Nat} {T : List Rw} {A : Agd} {t : List (Nat × Nat)} (g : Good T A) : Ran B T A t t 0 T A := ⟨⟨0, rfl⟩, g, Pre.refl T, Ext.refl A, Nat.le_refl _, Nat.le_refl _⟩
theorem ext_some {A A' : Agd} (h : Ext A A') {p : Nat × Nat} (hp : (ask A p).isSome = true) : (ask A' p).isSome = true := by
  obtain ⟨c, hc⟩ := Option.isSome_iff_exists.mp hp
  rw [h p c hc]
  rfl
/-- the pairs below a pair of these kinds, ready to be known -/
def Todo (B : Nat) (T : List Rw) (A0 : Agd) (ws : List (Nat × Nat)) (n : Nat) : Prop := ∀ (T1 : List Rw) (A1 : Agd) (base : List (Nat × Nat)), Pre T T1 → Ext A0 A1 → Good T1 A1 → base.length + n ≤ B → T1.length + n < B → A1.length + n < B →
  ∃ T2 A2, Ran B T1 A1 (((ws.filter fun p => (ask A0 p).isNone)).reverse ++ base) base n T2 A2 ∧ ∀ p ∈ ws, (ask A2 p).isSome = true
/-- one pair -/
theorem one_pair {B : Nat} {T : List Rw} {A : Agd} (g : Good T A) {i j : Nat} {x y : Wk} (dx : Den T i x) (dy : Den T j y) {n : Nat} (hw : Todo B T A (below T i j) n) (base : List (Nat × Nat)) (h1 : base.length + (n + 1) ≤ B) (h2 : T.length + (n + 1) < B) (h3 : A.length + (n + 1) < B) :
    ∃ T' A', Ran B T A ((i, j) :: base) base (n + 1) T' A' ∧ (ask A' (i, j)).isSome = true := by
  have pop : ∀ {T1 : List Rw} {A1 : Agd}, Good T1 A1 → Pre T T1 → (ask A1 (i, j)).isSome = true → T1.length < B → A1.length < B → Ran B T1 A1 ((i, j) :: base) base 0 T1 A1 := fun g1 pr hk b1 b2 => by
    refine ⟨⟨1, ⟨i, j, base, rfl, ⟨x, dx.mono pr⟩, y, dy.mono pr⟩, g1, by show base.length + 1 ≤ B; omega, b1, b2, ?_⟩, g1, Pre.refl _, Ext.refl _, Nat.le_refl _, Nat.le_refl _⟩
    show stepC _ = _
    rw [stepC_known rfl hk]
  by_cases hk : (ask A (i, j)).isSome = true
  · exact ⟨T, A, (pop g (Pre.refl T) hk (by omega) (by omega)).more (Nat.zero_le _), hk⟩
  have hk0 : ask A (i, j) = none := by simpa using hk
  -- all below known: it's joined
  have last : ∀ {T1 : List Rw} {A1 : Agd}, Good T1 A1 → Pre T T1 → (∀ p ∈ below T i j, (ask A1 p).isSome = true) → T1.length + 1 < B → A1.length + 1 < B → ∃ T' A', Ran B T1 A1 ((i, j) :: base) base 1 T' A' ∧ (ask A' (i, j)).isSome = true := by
    intro T1 A1 g1 pr hall b1 b2
    by_cases hk1 : (ask A1 (i, j)).isSome = true
    · exact ⟨T1, A1, (pop g1 pr hk1 (by omega) (by omega)).more (Nat.zero_le _), hk1⟩
    have hk2 : ask A1 (i, j) = none := by simpa using hk1
    have eb : below T1 i j = below T i j := below_pre pr dx dy
    have hall' : ∀ p ∈ below T1 i j, (ask A1 p).isSome = true := by rw [eb]; exact hall
    have jo := joined_ok g1 (dx.mono pr) (dy.mono pr) hall'
    have hf : (below T1 i j).filter (fun p => (ask A1 p).isNone) = [] := by
      rw [List.filter_eq_nil_iff]
      intro p hp hn
      have := hall' p hp
      cases q : ask A1 p with
      | none => rw [q] at this; cases this
      | some c => rw [q] at hn; cases hn
    generalize hr : joined T1 A1 i j = r at jo
    obtain ⟨c, T2⟩ := r
    have st : stepC ⟨T1, A1, (i, j) :: base⟩ = ⟨T2, A1 ++ [((i, j), c)], (i, j) :: base⟩ := by
      show (if (ask A1 (i, j)).isSome = true then _ else _) = _
      rw [if_neg hk1]
      show (if (below T1 i j).filter (fun p => (ask A1 p).isNone) = [] then _ else _) = _
      rw [if_pos hf, hr]
    have hask : ask (A1 ++ [((i, j), c)]) (i, j) = some c := by rw [ask_snoc hk2, if_pos rfl]
    have l2 := jo.len
    simp only at l2
    have gd : Good T2 (A1 ++ [((i, j), c)]) := ⟨jo.tab, fun p d hp => by
      rw [ask_snoc hk2] at hp
      by_cases e : p = (i, j)
      · rw [if_pos e] at hp
        cases hp
        subst e
        exact ⟨jo.right, ⟨x, (dx.mono pr).mono jo.pre⟩, y, (dy.mono pr).mono jo.pre⟩
      · rw [if_neg e] at hp
        exact (g1.mono jo.pre jo.tab).right p d hp⟩
    have la : (A1 ++ [((i, j), c)]).length = A1.length + 1 := by rw [List.length_append, List.length_singleton]
    have r1 : Ran B T1 A1 ((i, j) :: base) ((i, j) :: base) 1 T2 (A1 ++ [((i, j), c)]) := ⟨⟨1, ⟨i, j, base, rfl, ⟨x, dx.mono pr⟩, y, dy.mono pr⟩, g1, by show base.length + 1 ≤ B; omega, by show T1.length < B; omega, by show A1.length < B; omega, st⟩, gd, jo.pre, Ext.snoc hk2, l2, by omega⟩
    have r2 := pop gd (pr.trans jo.pre) (by rw [hask]; rfl) (by omega) (by omega)
    exact ⟨T2, _, r1.trans r2, by rw [hask]; rfl⟩
  by_cases hf : (below T i j).filter (fun p => (ask A p).isNone) = []
  · have hall : ∀ p ∈ below T i j, (ask A p).isSome = true := fun p hp => by
      have := List.filter_eq_nil_iff.mp hf p hp
      cases q : ask A p with
      | none => rw [q] at this; exact absurd rfl this
      | some c => rfl
    obtain ⟨T', A', r, h⟩ := last g (Pre.refl T) hall (by omega) (by omega)
    exact ⟨T', A', r.more (by omega), h⟩
  · have st : stepC ⟨T, A, (i, j) :: base⟩ = ⟨T, A, ((below T i j).filter fun p => (ask A p).isNone).reverse ++ (i, j) :: base⟩ := by
      show (if (ask A (i, j)).isSome = true then _ else _) = _
      rw [if_neg hk]
      show (if (below T i j).filter (fun p => (ask A p).isNone) = [] then _ else _) = _
      rw [if_neg hf]
    have r0 : Ran B T A ((i, j) :: base) (((below T i j).filter fun p => (ask A p).isNone).reverse ++ (i, j) :: base) 0 T A := ⟨⟨1, ⟨i, j, base, rfl, ⟨x, dx⟩, y, dy⟩, g, by show base.length + 1 ≤ B; omega, by show T.length < B; omega, by show A.length < B; omega, st⟩, g, Pre.refl _, Ext.refl _, Nat.le_refl _, Nat.le_refl _⟩
    obtain ⟨T1, A1, r1, hall⟩ := hw T A ((i, j) :: base) (Pre.refl _) (Ext.refl _) g (by show base.length + 1 + n ≤ B; omega) (by omega) (by omega)
    have l1 := r1.lenT
    have l2 := r1.lenA
    obtain ⟨T', A', r2, h⟩ := last r1.good r1.pre hall (by omega) (by omega)
    have r3 := (r0.trans r1).trans r2
    exact ⟨T', A', r3.more (by omega), h⟩
theorem filt_pos {A : Agd} {p : Nat × Nat} (l : List (Nat × Nat)) (h : (ask A p).isNone = true) : (p :: l).filter (fun p => (ask A p).isNone) = p :: l.filter (fun p => (ask A p).isNone) := List.filter_cons_of_pos (p := fun p => (ask A p).isNone) h
theorem filt_neg {A : Agd} {p : Nat × Nat} (l : List (Nat × Nat)) (h : ¬ (ask A p).isNone = true) : (p :: l).filter (fun p => (ask A p).isNone) = l.filter (fun p => (ask A p).isNone) := List.filter_cons_of_neg (p := fun p => (ask A p).isNone) h
theorem todo_nil {B : Nat} {T : List Rw} {A0 : Agd} : Todo B T A0 [] 0 := fun T1 A1 base _ _ g _ _ _ => ⟨T1, A1, Ran.refl g, fun p hp => by cases hp⟩
mutual
theorem pair_ends (B : Nat) : ∀ (x : Wk) {T : List Rw} {A : Agd} (g : Good T A) {i j : Nat} {y : Wk} (dx : Den T i x) (dy : Den T j y) (base : List (Nat × Nat)), base.length + size x ≤ B → T.length + size x < B → A.length + size x < B →
    ∃ T' A', Ran B T A ((i, j) :: base) base (size x) T' A' ∧ (ask A' (i, j)).isSome = true
  | x, T, A, g, i, j, y, dx, dy, base, h1, h2, h3 => by
    have easy : below T i j = [] → ∃ T' A', Ran B T A ((i, j) :: base) base (size x) T' A' ∧ (ask A' (i, j)).isSome = true := fun e => by
      have sp := size_pos x
      obtain ⟨T', A', r, h⟩ := one_pair g dx dy (B := B) (n := 0) (by rw [e]; exact todo_nil) base (by omega) (by omega) (by omega)
      exact ⟨T', A', r.more (by omega), h⟩
    by_cases hij : i = j
    · exact easy (if_pos hij)
    have bel : below T i j = match T[i]?, T[j]? with
      | some (.list a), some (.list b) => [(a, b)]
      | some (.rcd ns ks), some (.rcd ms ls) => if ns = ms then ks.zip ls else []
      | _, _ => [] := if_neg hij
    match x, dx with
    | _, .word e1 _ => exact easy (by rw [bel, e1])
    | _, .sort e1 => exact easy (by rw [bel, e1])
    | .list xk, .list (j := a) e1 d1 =>
      cases dy with
      | word e2 _ => exact easy (by rw [bel, e1, e2])
      | rcd e2 _ => exact easy (by rw [bel, e1, e2])
      | sort e2 => exact easy (by rw [bel, e1, e2])
      | list e2 d2 =>
        rename_i b yk
        have eb : below T i j = [(a, b)] := by rw [bel, e1, e2]
        refine one_pair g (.list e1 d1) (.list e2 d2) (n := size xk) ?_ base h1 h2 h3
        rw [eb]
        intro T1 A1 base1 p1 x1 g1 b1 b2 b3
        by_cases hq : (ask A (a, b)).isNone = true
        · rw [filt_pos _ hq]
          obtain ⟨T2, A2, r, h⟩ := pair_ends B xk g1 (d1.mono p1) (d2.mono p1) base1 b1 b2 b3
          exact ⟨T2, A2, r, fun p hp => by rw [List.mem_singleton.mp hp]; exact h⟩
        · rw [filt_neg _ hq]
          refine ⟨T1, A1, (Ran.refl g1).more (Nat.zero_le _), fun p hp => ?_⟩
          rw [List.mem_singleton.mp hp]
          refine ext_some x1 ?_
          cases q : ask A (a, b) with
          | none => rw [q] at hq; exact absurd rfl hq
          | some c => rfl
    | .record l, .rcd (ns := ns) (ks := ks) e1 d1 =>
      cases dy with
      | word e2 _ => exact easy (by rw [bel, e1, e2])
      | list e2 _ => exact easy (by rw [bel, e1, e2])
      | sort e2 => exact easy (by rw [bel, e1, e2])
      | rcd e2 d2 =>
        rename_i ms ls m
        by_cases hn : ns = ms
        · subst hn
          have eb : below T i j = ks.zip ls := by rw [bel, e1, e2]; exact if_pos rfl
          refine one_pair g (.rcd e1 d1) (.rcd e2 d2) (n := sizes l) ?_ base h1 h2 h3
          rw [eb]
          exact row_ends B l d1 d2
        · exact easy (by rw [bel, e1, e2]; exact if_neg hn)
theorem row_ends (B : Nat) : ∀ (l : Wr) {T : List Rw} {A0 : Agd} {ns : List Bytes} {ks ls : List Nat} {m : Wr}, DenR T ns ks l → DenR T ns ls m → Todo B T A0 (ks.zip ls) (sizes l)
  | .nil, T, A0, ns, ks, ls, m, d1, d2 => by
    cases d1
    exact todo_nil
  | .cons n x l, T, A0, ns, ks, ls, m, d1, d2 => by
    cases d1 with
    | cons dx r1 =>
      cases d2 with
      | cons dy r2 =>
        rename_i k ns ks k' ls y m
        intro T1 A1 base p1 x1 g1 b1 b2 b3
        have ih := row_ends B l (A0 := A0) r1 r2
        have sp := size_pos x
        unfold sizes at b1 b2 b3 ⊢
        show ∃ T2 A2, Ran B T1 A1 ((((k, k') :: ks.zip ls).filter fun p => (ask A0 p).isNone).reverse ++ base) base (size x + sizes l) T2 A2 ∧ ∀ p ∈ (k, k') :: ks.zip ls, (ask A2 p).isSome = true
        by_cases hq : (ask A0 (k, k')).isNone = true
        · rw [filt_pos _ hq, List.reverse_cons, List.append_assoc]
          obtain ⟨T2, A2, ra, ha⟩ := ih T1 A1 ([(k, k')] ++ base) p1 x1 g1 (by rw [List.length_append, List.length_singleton]; omega) (by omega) (by omega)
          have l1 := ra.lenT
          have l2 := ra.lenA
          obtain ⟨T3, A3, rb, hb⟩ := pair_ends B x ra.good ((dx.mono p1).mono ra.pre) ((dy.mono p1).mono ra.pre) base (by omega) (by omega) (by omega)
          refine ⟨T3, A3, (ra.trans rb).more (by omega), fun p hp => ?_⟩
          rcases List.mem_cons.mp hp with rfl | hp
          · exact hb
          · exact ext_some rb.ext (ha p hp)
        · rw [filt_neg _ hq]
          obtain ⟨T2, A2, ra, ha⟩ := ih T1 A1 base p1 x1 g1 (by omega) (by omega) (by omega)
          refine ⟨T2, A2, ra.more (by omega), fun p hp => ?_⟩
          rcases List.mem_cons.mp hp with rfl | hp
          · refine ext_some (x1.trans ra.ext) ?_
            cases q : ask A0 (k, k') with
            | none => rw [q] at hq; exact absurd rfl hq
            | some c => rfl
          · exact ha p hp
end
end Ag

set_option maxRecDepth 100000
set_option maxHeartbeats 4000000
namespace Ag
open Sw War
/-! # A kind's bytes -/
def nmB (b : Bytes) : Bytes := vary b.length ++ b
theorem utf8_ascii : ∀ b : Bytes, (∀ c ∈ b, c.toNat < 128) → utf8 (b.map fun (c : UInt8) => c.toNat) = b
  | [], _ => rfl
  | c :: r, h => by
    have h1 := h c List.mem_cons_self
    show utf8One c.toNat ++ utf8 (r.map _) = c :: r
    rw [utf8_ascii r fun x hx => h x (List.mem_cons_of_mem _ hx)]
    unfold utf8One
    rw [if_pos (by omega : c.toNat < 0x80)]
    show UInt8.ofNat c.toNat :: r = c :: r
    rw [UInt8.ofNat_toNat]
theorem name_ascii {n : Bytes} (h : War.isName n = true) : ∀ c ∈ n, c.toNat < 128 := fun c hc => by
  unfold War.isName at h
  rw [Bool.and_eq_true] at h
  have := bare_all h.1 c hc
  unfold Sw.inName Sw.isSmall Sw.isDigit at this
  simp only [Bool.or_eq_true, Bool.and_eq_true, decide_eq_true_eq, beq_iff_eq] at this
  rcases this with h | h | h
  · omega
  · omega
  · rw [h]; decide
theorem txt_enc {b : Bytes} (h : ∀ c ∈ b, c.toNat < 128) : (War.txt b).enc = 4 :: nmB b := by
  unfold War.txt
  show (Sw.Value.text _).enc = _
  rw [Sw.Value.enc, utf8_ascii b h]
  rfl
theorem name_len {n : Bytes} (h : War.isName n = true) : n.length ≤ 64 := by
  unfold War.isName at h
  rw [Bool.and_eq_true, Bool.and_eq_true, decide_eq_true_eq] at h
  exact h.2.1
theorem enc_plain {b : Bytes} {k : Wk} (h : (b, k) ∈ wlK) : k.told.enc = 4 :: nmB b := by
  unfold wlK at h
  simp only [List.mem_cons, List.not_mem_nil, or_false, Prod.mk.injEq] at h
  rcases h with ⟨rfl, rfl⟩ | ⟨rfl, rfl⟩ | ⟨rfl, rfl⟩ | ⟨rfl, rfl⟩ | ⟨rfl, rfl⟩ | ⟨rfl, rfl⟩ | ⟨rfl, rfl⟩ <;>
  exact txt_enc (by decide +kernel)
theorem told_list (k : Wk) : (War.K.list k).told = .rec_ (.cons bList k.told .nil) := by simp only [War.K.told]; rfl
theorem told_record (l : Wr) : (War.K.record l).told = .rec_ (.cons bRecord (.rec_ l.told) .nil) := by simp only [War.K.told]; rfl
theorem told_sort (m n : Bytes) : (War.K.sort m n).told = .rec_ (.cons bIn (War.txt m) (.cons bSort (War.txt n) .nil)) := by
  simp only [War.K.told]
  show Value.rec_ (Row.under (Row.cons bIn (War.txt m) .nil) bSort (War.txt n)) = _
  unfold Row.under
  rw [if_neg (by decide +kernel)]
  rfl
theorem enc_list (k : Wk) : (War.K.list k).told.enc = 6 :: (vary 1 ++ (nmB bList ++ k.told.enc)) := by
  rw [told_list]
  simp only [Sw.Value.enc, Sw.Row.enc, Sw.Row.length, if_true, List.append_nil]
  rfl
theorem enc_record (l : Wr) : (War.K.record l).told.enc = 6 :: (vary 1 ++ (nmB bRecord ++ (6 :: (vary l.told.length ++ l.told.enc true)))) := by
  rw [told_record]
  simp only [Sw.Value.enc, Sw.Row.enc, Sw.Row.length, if_true, List.append_nil]
  rfl
theorem enc_sort {m n : Bytes} (hm : War.isName m = true) (hn : War.isName n = true) : (War.K.sort m n).told.enc = 6 :: (vary 2 ++ (nmB bIn ++ ((4 :: nmB m) ++ (nmB bSort ++ (4 :: nmB n))))) := by
  rw [told_sort]
  simp only [Sw.Value.enc, Sw.Row.enc, Sw.Row.length, if_true, List.append_nil, txt_enc (name_ascii hm), txt_enc (name_ascii hn)]
  rfl
theorem enc_row (n : Bytes) (k : Wk) (l : Wr) : (War.KRow.told (.cons n k l)).enc true = nmB n ++ (k.told.enc ++ l.told.enc true) := by
  simp only [War.KRow.told, Sw.Row.enc, if_true]
  rfl
theorem row_len : ∀ {T : List Rw} {ns : List Bytes} {ks : List Nat} {l : Wr}, DenR T ns ks l → l.told.length = ns.length
  | _, _, _, _, .nil => rfl
  | _, _, _, _, .cons _ r => by
    simp only [War.KRow.told, Sw.Row.length, List.length_cons]
    rw [row_len r]
/-! ## pieces -/
def pieces : Rw → List (Bytes × Option Nat)
  | .word b => [(4 :: nmB b, none)]
  | .list k => [(6 :: vary 1 ++ nmB bList, some k)]
  | .sort m n => [(6 :: vary 2 ++ (nmB bIn ++ 4 :: nmB m) ++ nmB bSort ++ 4 :: nmB n, none)]
  | .rcd ns ks => (6 :: vary 1 ++ nmB bRecord ++ 6 :: vary ns.length, none) :: (ns.zip ks).map fun p => (nmB p.1, some p.2)
/-- the stack (its top first) ends with these bytes -/
inductive Emits (T : List Rw) : Nat → List (Bytes × Option Nat) → Bytes → Prop
  | nil : Emits T 0 [] []
  | stop {m : Nat} {a : Bytes} {st : List (Bytes × Option Nat)} {bs : Bytes} : Emits T m st bs → Emits T (m + 1) ((a, none) :: st) (a ++ bs)
  | go {m i : Nat} {a : Bytes} {st : List (Bytes × Option Nat)} {bs : Bytes} {r : Rw} : T[i]? = some r → Emits T m (pieces r ++ st) bs → Emits T (m + 1) ((a, some i) :: st) (a ++ bs)
theorem vary_ne (n : Nat) : vary n ≠ [] := by
  unfold vary
  split <;> simp
theorem nmB_ne (b : Bytes) : nmB b ≠ [] := by
  unfold nmB
  intro h
  exact vary_ne _ (List.append_eq_nil_iff.mp h).1
theorem pieces_ne (r : Rw) : ∀ p ∈ pieces r, p.1 ≠ [] := by
  intro p hp
  cases r with
  | word b => rw [List.mem_singleton.mp hp]; simp
  | list k => rw [List.mem_singleton.mp hp]; simp
  | sort m n => rw [List.mem_singleton.mp hp]; simp
  | rcd ns ks =>
    rcases List.mem_cons.mp hp with rfl | hp
    · simp
    · obtain ⟨q, _, rfl⟩ := List.mem_map.mp hp
      exact nmB_ne _
theorem emits_len {T : List Rw} {m : Nat} {st : List (Bytes × Option Nat)} {bs : Bytes} (e : Emits T m st bs) : (∀ p ∈ st, p.1 ≠ []) → st.length ≤ bs.length := by
  induction e with
  | nil => exact fun _ => Nat.le_refl _
  | stop e ih =>
    intro h
    have ih := ih fun p hp => h p (List.mem_cons_of_mem _ hp)
    have := List.length_pos_iff.mpr (h _ List.mem_cons_self)
    rw [List.length_cons, List.length_append]
    simp only at this
    omega
  | go hr e ih =>
    intro h
    have ih := ih fun p hp => by
      rcases List.mem_append.mp hp with hp | hp
      · exact pieces_ne _ p hp
      · exact h p (List.mem_cons_of_mem _ hp)
    have := List.length_pos_iff.mpr (h _ List.mem_cons_self)
    rw [List.length_append] at ih
    rw [List.length_cons, List.length_append]
    simp only at this
    omega
mutual
theorem den_emits {T : List Rw} (ht : Tab T) : ∀ {i : Nat} {k : Wk}, Den T i k → ∀ {m : Nat} {st : List (Bytes × Option Nat)} {bs : Bytes} (a : Bytes), Emits T m st bs → ∃ m', Emits T m' ((a, some i) :: st) (a ++ (k.told.enc ++ bs))
  | _, _, .word e hk, m, st, bs, a, h => by
    refine ⟨_, .go e ?_ (m := m + 1)⟩
    rw [enc_plain hk]
    exact .stop h
  | _, _, .list (k := k) e d, m, st, bs, a, h => by
    obtain ⟨m', h'⟩ := den_emits ht d (6 :: vary 1 ++ nmB bList) h
    refine ⟨_, .go e ?_ (m := m')⟩
    rw [enc_list]
    simp only [List.cons_append, List.append_assoc] at h' ⊢
    exact h'
  | _, _, .rcd (ns := ns) (ks := ks) (l := l) e d, m, st, bs, a, h => by
    obtain ⟨m', h'⟩ := row_emits ht d h
    refine ⟨_, .go e ?_ (m := m' + 1)⟩
    have := Emits.stop (a := 6 :: vary 1 ++ nmB bRecord ++ 6 :: vary ns.length) h'
    rw [enc_record, row_len d]
    simp only [pieces, List.cons_append, List.append_assoc] at this ⊢
    exact this
  | _, _, .sort (m := mm) (n := nn) e, m, st, bs, a, h => by
    have ok : RwOk (.sort mm nn) := ht.rows _ (List.mem_of_getElem? e)
    refine ⟨_, .go e ?_ (m := m + 1)⟩
    have := Emits.stop (a := 6 :: vary 2 ++ (nmB bIn ++ 4 :: nmB mm) ++ nmB bSort ++ 4 :: nmB nn) h
    rw [enc_sort ok.1 ok.2]
    simp only [pieces, List.cons_append, List.append_assoc, List.nil_append] at this ⊢
    exact this
theorem row_emits {T : List Rw} (ht : Tab T) : ∀ {ns : List Bytes} {ks : List Nat} {l : Wr}, DenR T ns ks l → ∀ {m : Nat} {st : List (Bytes × Option Nat)} {bs : Bytes}, Emits T m st bs → ∃ m', Emits T m' ((ns.zip ks).map (fun p => (nmB p.1, some p.2)) ++ st) (l.told.enc true ++ bs)
  | _, _, _, .nil, m, st, bs, h => ⟨m, h⟩
  | _, _, _, .cons (n := n) (k := k) (x := x) (l := l) d r, m, st, bs, h => by
    obtain ⟨m1, h1⟩ := row_emits ht r h
    obtain ⟨m2, h2⟩ := den_emits ht d (nmB n) h1
    refine ⟨m2, ?_⟩
    rw [enc_row]
    simp only [List.append_assoc] at h2 ⊢
    exact h2
end
mutual
theorem agree_enc : ∀ (x y : Wk) {k : Wk}, x.agree y = some k → k.told.enc.length ≤ x.told.enc.length + y.told.enc.length
  | .nothing, y, k, h => by
    simp only [War.K.agree] at h
    cases h
    omega
  | .plain a, y, k, h => by
    cases y with
    | nothing => simp only [War.K.agree] at h; cases h; omega
    | plain b =>
      simp only [War.K.agree] at h
      split at h
      · cases h; omega
      · cases h
    | list _ => simp [War.K.agree] at h
    | record _ => simp [War.K.agree] at h
    | sort _ _ => simp [War.K.agree] at h
  | .sort a b, y, k, h => by
    cases y with
    | nothing => simp only [War.K.agree] at h; cases h; omega
    | plain b => simp [War.K.agree] at h
    | list _ => simp [War.K.agree] at h
    | record _ => simp [War.K.agree] at h
    | sort _ _ =>
      simp only [War.K.agree] at h
      split at h
      · cases h; omega
      · cases h
  | .list a, y, k, h => by
    cases y with
    | nothing => simp only [War.K.agree] at h; cases h; omega
    | plain b => simp [War.K.agree] at h
    | list b =>
      simp only [War.K.agree] at h
      obtain ⟨c, hc, rfl⟩ := Option.map_eq_some_iff.mp h
      have := agree_enc a b hc
      rw [enc_list, enc_list, enc_list]
      simp only [List.length_cons, List.length_append]
      omega
    | record _ => simp [War.K.agree] at h
    | sort _ _ => simp [War.K.agree] at h
  | .record a, y, k, h => by
    cases y with
    | nothing => simp only [War.K.agree] at h; cases h; omega
    | plain b => simp [War.K.agree] at h
    | list b => simp [War.K.agree] at h
    | record b =>
      simp only [War.K.agree] at h
      obtain ⟨c, hc, rfl⟩ := Option.map_eq_some_iff.mp h
      have := agreeR_enc a b hc
      rw [enc_record, enc_record, enc_record, this.2]
      simp only [List.length_cons, List.length_append]
      omega
    | sort _ _ => simp [War.K.agree] at h
theorem agreeR_enc : ∀ (l m : Wr) {k : Wr}, l.agree m = some k → (k.told.enc true).length ≤ (l.told.enc true).length + (m.told.enc true).length ∧ k.told.length = l.told.length
  | .nil, .nil, k, h => by
    simp only [War.KRow.agree] at h
    cases h
    exact ⟨by omega, rfl⟩
  | .nil, .cons _ _ _, k, h => by simp [War.KRow.agree] at h
  | .cons _ _ _, .nil, k, h => by simp [War.KRow.agree] at h
  | .cons n a r, .cons m b s, k, h => by
    simp only [War.KRow.agree] at h
    split at h
    · rename_i e
      subst e
      split at h
      · cases h
      · rename_i c hc
        obtain ⟨l', hl, rfl⟩ := Option.map_eq_some_iff.mp h
        have h1 := agree_enc a b hc
        have h2 := agreeR_enc r s hl
        rw [enc_row, enc_row, enc_row]
        simp only [List.length_append, War.KRow.told, Sw.Row.length]
        exact ⟨by omega, by rw [h2.2]⟩
    · cases h
end
end Ag

set_option maxRecDepth 100000
set_option maxHeartbeats 4000000
namespace Ag
open Sw War
/-! # Told kinds read -/
def noPT : PT := .mk 0 0 0 [] [] []
def kid (t : PT) (i : Nat) : PT := t.kids.getD i noPT
def shpT (t : PT) : Bytes := shp t.tag t.names
def txwT (t : PT) : Bytes := txw t.tag t.codes
def mem (t : PT) : List PT := if shpT t = bList then t.kids else if shpT t = bRecord then (kid t 0).kids else []
def isT (t : PT) : Bool := if t.tag = 4 then (wlK.map (·.1)).contains (txwT t) else if shpT t = bIn ++ 44 :: bSort then War.isName (txwT (kid t 0)) && War.isName (txwT (kid t 1))
  else if shpT t = bRecord then decide ((kid t 0).tag = 6) && (kid t 0).names.all War.isName else decide (shpT t = bList)
abbrev Fd := Nat → Option Nat
def inner (F : Fd) (t : PT) : List Nat := (mem t).map fun u => (F u.place).getD 0
def rowOf (F : Fd) (t : PT) : Rw := if t.tag = 4 then .word (txwT t) else if shpT t = bList then .list ((inner F t).getD 0 0) else if shpT t = bRecord then .rcd (kid t 0).names (inner F t) else .sort (txwT (kid t 0)) (txwT (kid t 1))
def setF (F : Fd) (p n : Nat) : Fd := fun q => if q = p then some n else F q
/-- a value as decode gives it -/
structure WF (t : PT) : Prop where
  len : t.tag = 6 → t.names.length = t.kids.length
  cost : t.cost ≤ 8192
/-- the first loop: the values in order; none: one is no told kind -/
def Reads : Nat → List PT → Option (List PT) → Prop
  | 0, st, res => st = [] ∧ res = some []
  | _ + 1, [], _ => False
  | m + 1, t :: st, res => WF t ∧ if isT t = true then ∃ r, Reads m ((mem t).reverse ++ st) r ∧ res = r.map (t :: ·) else res = none
/-- the second loop: their rows -/
inductive Nums : List PT → List Rw → Fd → List Rw → Fd → Prop
  | nil {T : List Rw} {F : Fd} : Nums [] T F T F
  | cons {u : PT} {us : List PT} {T T' : List Rw} {F F' : Fd} : WF u → isT u = true → (∀ c ∈ mem u, (F c.place).isSome = true) → RwOk (rowOf F u) → Nums us (putT T (rowOf F u)) (setF F u.place (putN T (rowOf F u))) T' F' → Nums (u :: us) T F T' F'
theorem Nums.append {us vs : List PT} {T T1 T2 : List Rw} {F F1 F2 : Fd} (a : Nums us T F T1 F1) (b : Nums vs T1 F1 T2 F2) : Nums (us ++ vs) T F T2 F2 := by
  induction a with
  | nil => exact b
  | cons h1 h2 h3 h4 _ ih => exact .cons h1 h2 h3 h4 (ih b)
theorem PT.cost_eq (t : PT) : t.cost = 1 + (if t.tag = 4 then t.codes.length else 0) + (t.names.map (·.length)).sum + t.names.length + costs t.kids := by
  cases t
  unfold PT.cost
  rfl
theorem PT.places_eq (t : PT) : t.places = t.place :: placesL t.kids := by
  cases t
  unfold PT.places
  rfl
theorem cost_kid {t u : PT} : ∀ {ks : List PT}, u ∈ ks → u.cost ≤ costs ks
  | k :: r, h => by
    unfold costs
    rcases List.mem_cons.mp h with e | h
    · rw [e]; omega
    · have := cost_kid (t := t) h
      omega
theorem place_mem (t : PT) : t.place ∈ t.places := by rw [PT.places_eq]; exact List.mem_cons_self
structure TOk (t : PT) (k : Wk) (ord : List PT) : Prop where
  reads : ∀ m st res, Reads m st res → ∃ m', Reads m' (t :: st) (res.map (ord ++ ·))
  nums : ∀ T F, Tab T → t.places.Pairwise (· < ·) → ∃ T' F', Nums ord.reverse T F T' F' ∧ Tab T' ∧ Pre T T' ∧ T'.length ≤ T.length + ord.length ∧ (∃ n, F' t.place = some n ∧ Den T' n k) ∧ ∀ p, p ∉ t.places → F' p = F p
  len : ord.length ≤ t.cost
  enc : k.told.enc.length ≤ 15 * t.cost
  sz : size k ≤ t.cost
structure ROk (ks : List PT) (ns : List Bytes) (l : Wr) (ord : List PT) : Prop where
  reads : ∀ m st res, Reads m st res → ∃ m', Reads m' (ks.reverse ++ st) (res.map (ord ++ ·))
  nums : ∀ T F, Tab T → (placesL ks).Pairwise (· < ·) → ∃ T' F', Nums ord.reverse T F T' F' ∧ Tab T' ∧ Pre T T' ∧ T'.length ≤ T.length + ord.length ∧ (∀ u ∈ ks, (F' u.place).isSome = true) ∧ DenR T' ns (ks.map fun u => (F' u.place).getD 0) l ∧ ∀ p, p ∉ placesL ks → F' p = F p
  len : ord.length ≤ costs ks
  enc : (l.told.enc true).length ≤ (ns.map (fun n => (nmB n).length)).sum + 15 * costs ks
  sz : sizes l ≤ costs ks
  names : ns.length = ks.length
  tlen : l.told.length = ns.length
def TV (v : Value) (t : PT) : Prop := match War.toldKind v with
  | none => ∀ st, ∃ m, Reads m (t :: st) none
  | some k => ∃ ord, TOk t k ord
def TR (m : Row) (ns : List Bytes) (ks : List PT) : Prop := match War.toldRow m with
  | none => ∀ st, ∃ m', Reads m' (ks.reverse ++ st) none
  | some l => ∃ ord, ROk ks ns l ord
theorem reads_no {t : PT} {st : List PT} (w : WF t) (h : isT t = false) : ∃ m, Reads m (t :: st) none := ⟨1, w, by rw [if_neg (by rw [h]; exact Bool.false_ne_true)]⟩
theorem reads_go {t : PT} {st : List PT} {m : Nat} {r : Option (List PT)} (w : WF t) (h : isT t = true) (hr : Reads m ((mem t).reverse ++ st) r) : ∃ m, Reads m (t :: st) (r.map (t :: ·)) := ⟨m + 1, w, by rw [if_pos h]; exact ⟨r, hr, rfl⟩⟩
theorem setF_same (F : Fd) (p n : Nat) : setF F p n p = some n := if_pos rfl
theorem setF_ne {F : Fd} {p q n : Nat} (h : q ≠ p) : setF F p n q = F q := if_neg h
/-- a told value with these members known -/
theorem TOk.of {t : PT} {k : Wk} {ord : List PT} (w : WF t) (ht : isT t = true) (hr : ∀ m st res, Reads m st res → ∃ m', Reads m' ((mem t).reverse ++ st) (res.map (ord ++ ·)))
    (hn : ∀ T F, Tab T → t.places.Pairwise (· < ·) → ∃ T' F', Nums ord.reverse T F T' F' ∧ Tab T' ∧ Pre T T' ∧ T'.length ≤ T.length + ord.length ∧ (∀ u ∈ mem t, (F' u.place).isSome = true) ∧ RwOk (rowOf F' t) ∧ (∀ T2, Pre T' T2 → T2[putN T' (rowOf F' t)]? = some (rowOf F' t) → Den T2 (putN T' (rowOf F' t)) k) ∧ ∀ p, p ∉ placesL t.kids → F' p = F p)
    (hl : ord.length + 1 ≤ t.cost) (he : k.told.enc.length ≤ 15 * t.cost) (hs : size k ≤ t.cost) : TOk t k (t :: ord) where
  reads := fun m st res h => by
    obtain ⟨m', h'⟩ := hr m st res h
    obtain ⟨m2, h2⟩ := reads_go w ht h'
    refine ⟨m2, ?_⟩
    rw [Option.map_map] at h2
    exact h2
  nums := fun T F tb pw => by
    obtain ⟨T', F', h1, h2, h3, h4, h5, h6, h7, h8⟩ := hn T F tb pw
    refine ⟨putT T' (rowOf F' t), setF F' t.place (putN T' (rowOf F' t)), ?_, h2.put h6, h3.trans (put_pre _ _), ?_, ⟨_, setF_same _ _ _, h7 _ (put_pre _ _) (putT_at _ _)⟩, fun p hp => ?_⟩
    · rw [List.reverse_cons]
      exact h1.append (.cons w ht h5 h6 .nil)
    · have := put_len T' (rowOf F' t)
      rw [List.length_cons]
      omega
    · rw [PT.places_eq, List.mem_cons, not_or] at hp
      rw [setF_ne hp.1]
      exact h8 p hp.2
  len := by rw [List.length_cons]; exact hl
  enc := he
  sz := hs
theorem map_nil_ord (res : Option (List PT)) : res.map (([] : List PT) ++ ·) = res := by
  cases res <;> rfl
/-- without members -/
theorem TOk.atom {t : PT} {k : Wk} (w : WF t) (ht : isT t = true) (hm : mem t = []) (hrow : ∀ F, RwOk (rowOf F t) ∧ ∀ T n, T[n]? = some (rowOf F t) → Den T n k) (he : k.told.enc.length ≤ 15 * t.cost) (hs : size k = 1) : TOk t k [t] := by
  have c1 : 1 ≤ t.cost := by rw [PT.cost_eq]; omega
  refine TOk.of w ht (fun m st res h => ⟨m, by rw [hm, map_nil_ord]; exact h⟩) (fun T F tb pw => ⟨T, F, .nil, tb, Pre.refl T, Nat.le_refl _, by rw [hm]; simp, (hrow F).1, fun T2 _ h => (hrow F).2 _ _ h, fun _ _ => rfl⟩) c1 he (by omega)
/-! ## shapes -/
theorem shp_ne6 {t : PT} (h : t.tag ≠ 6) : shpT t = [63] := if_neg h
theorem shp63_list : ([63] : Bytes) ≠ bList := by decide +kernel
theorem shp63_rec : ([63] : Bytes) ≠ bRecord := by decide +kernel
theorem shp63_sort : ([63] : Bytes) ≠ bIn ++ 44 :: bSort := by decide +kernel
theorem isT_other {t : PT} (h4 : t.tag ≠ 4) (h6 : t.tag ≠ 6) : isT t = false := by
  unfold isT
  rw [if_neg h4, shp_ne6 h6, if_neg shp63_sort, if_neg shp63_rec]
  exact decide_eq_false shp63_list
theorem mem_not6 {t : PT} (h6 : t.tag ≠ 6) : mem t = [] := by
  unfold mem
  rw [shp_ne6 h6, if_neg shp63_list, if_neg shp63_rec]
theorem shpT_list {t : PT} : shpT t = bList ↔ t.tag = 6 ∧ t.names = [bList] := shp_list _ _
theorem shpT_record {t : PT} : shpT t = bRecord ↔ t.tag = 6 ∧ t.names = [bRecord] := shp_record _ _
theorem shpT_sort {t : PT} : shpT t = bIn ++ 44 :: bSort ↔ t.tag = 6 ∧ t.names = [bIn, bSort] := shp_sort _ _
theorem list_ne_rec : bList ≠ bRecord := by decide +kernel
theorem list_ne_sort : bList ≠ bIn ++ 44 :: bSort := by decide +kernel
theorem rec_ne_sort : bRecord ≠ bIn ++ 44 :: bSort := by decide +kernel
/-! ## the values -/
theorem rr_inv {n : Bytes} {v : Value} {r : Row} {ns : List Bytes} {ks : List PT} (h : RR true (.cons n v r) ns ks) : ∃ t ns' ks', ns = n :: ns' ∧ ks = t :: ks' ∧ VR v t ∧ RR true r ns' ks' := by
  cases h with
  | cons hv hr => exact ⟨_, _, _, by rw [if_pos rfl], rfl, hv, hr⟩
theorem rr_nil {ns : List Bytes} {ks : List PT} {b : Bool} (h : RR b .nil ns ks) : ns = [] ∧ ks = [] := by
  cases h with
  | nil => exact ⟨rfl, rfl⟩
theorem rr_len : ∀ {m : Row} {ns : List Bytes} {ks : List PT}, RR true m ns ks → ns.length = ks.length
  | .nil, _, _, h => by
    obtain ⟨rfl, rfl⟩ := rr_nil h
    rfl
  | .cons n v r, _, _, h => by
    obtain ⟨t, ns', ks', rfl, rfl, _, hr⟩ := rr_inv h
    rw [List.length_cons, List.length_cons, rr_len hr]
theorem rr_names : ∀ {m : Row} {ns : List Bytes} {ks : List PT}, RR true m ns ks → m.names = ns
  | .nil, _, _, h => by
    obtain ⟨rfl, rfl⟩ := rr_nil h
    rfl
  | .cons n v r, _, _, h => by
    obtain ⟨t, ns', ks', rfl, rfl, _, hr⟩ := rr_inv h
    show n :: r.names = n :: ns'
    rw [rr_names hr]
theorem vr_wf {v : Value} {t : PT} (h : VR v t) (hc : t.cost ≤ 8192) : WF t := by
  refine ⟨fun h6 => ?_, hc⟩
  cases h with
  | rec_ r => exact rr_len r
  | _ => simp [PT.tag] at h6
theorem told_text {c : Bytes} : (∃ k, (c, k) ∈ wlK ∧ (if c = ascii "nothing" then some (War.K.nothing : Wk) else (War.plainWords.findIdx? fun (x : Bytes) => x == c).map War.K.plain) = some k) ∨
    (c ∉ wlK.map (·.1) ∧ (if c = ascii "nothing" then some (War.K.nothing : Wk) else (War.plainWords.findIdx? fun (x : Bytes) => x == c).map War.K.plain) = none) := by
  by_cases h0 : c = ascii "nothing"
  · subst h0
    exact .inl ⟨.nothing, by unfold wlK bNothing; simp, if_pos rfl⟩
  rw [if_neg h0]
  by_cases h1 : c = ascii "yesno"
  · subst h1; exact .inl ⟨.plain 0, by unfold wlK; simp, rfl⟩
  by_cases h2 : c = ascii "number"
  · subst h2; exact .inl ⟨.plain 1, by unfold wlK; simp, rfl⟩
  by_cases h3 : c = ascii "bytes"
  · subst h3; exact .inl ⟨.plain 2, by unfold wlK; simp, rfl⟩
  by_cases h4 : c = ascii "text"
  · subst h4; exact .inl ⟨.plain 3, by unfold wlK; simp, rfl⟩
  by_cases h5 : c = ascii "moment"
  · subst h5; exact .inl ⟨.plain 4, by unfold wlK; simp, rfl⟩
  by_cases h6 : c = ascii "id"
  · subst h6; exact .inl ⟨.plain 5, by unfold wlK; simp, rfl⟩
  refine .inr ⟨?_, ?_⟩
  · unfold wlK bNothing
    simp [h0, h1, h2, h3, h4, h5, h6]
  · have : (War.plainWords.findIdx? fun (x : Bytes) => x == c) = none := by
      rw [List.findIdx?_eq_none_iff]
      intro x hx
      unfold War.plainWords at hx
      simp only [List.mem_cons, List.not_mem_nil, or_false] at hx
      rcases hx with rfl | rfl | rfl | rfl | rfl | rfl <;> exact beq_eq_false_iff_ne.mpr (Ne.symm (by assumption))
    rw [this]
    rfl
theorem wl_words {b : Bytes} (h : b ∈ wlK.map (·.1)) : wd b = b ∧ b.length ≤ 64 ∧ (∀ x ∈ b, x ≠ 63) := by
  unfold wlK bNothing at h
  simp only [List.map_cons, List.map_nil, List.mem_cons, List.not_mem_nil, or_false] at h
  rcases h with rfl | rfl | rfl | rfl | rfl | rfl | rfl <;> decide +kernel
theorem txw_word {c : Bytes} : txw 4 c ∈ wlK.map (·.1) ↔ c ∈ wlK.map (·.1) := by
  constructor
  · intro h
    have w := wl_words h
    unfold txw at h w
    split at h
    · rename_i h1
      rw [if_pos h1] at w
      have e := wd_eq (n := c) rfl w.2.2
      rw [e]
      exact h
    · rename_i h1
      rw [if_neg h1] at w
      exact absurd rfl (w.2.2 63 (by simp))
  · intro h
    have w := wl_words h
    unfold txw
    rw [if_pos ⟨rfl, w.2.1⟩, w.1]
    exact h
theorem txw_self {c : Bytes} (h : c ∈ wlK.map (·.1)) : txw 4 c = c := by
  have w := wl_words h
  unfold txw
  rw [if_pos ⟨rfl, w.2.1⟩, w.1]
/-- a text's word is a name, just if the text's bytes are -/
theorem txw_name (c : Bytes) : War.isName (txw 4 c) = War.isName c := by
  unfold txw
  by_cases h : c.length ≤ 64
  · rw [if_pos ⟨rfl, h⟩, isName_wd]
  · rw [if_neg (fun z => h z.2)]
    have : War.isName c = false := by
      cases e : War.isName c with
      | false => rfl
      | true => exact absurd (name_len e) h
    rw [this]
    decide +kernel
theorem txw_no {tag : Nat} {c : Bytes} (h : tag ≠ 4) : War.isName (txw tag c) = false := by
  unfold txw
  rw [if_neg fun z => h z.1]
  decide +kernel
/-- what nameIn says of a value -/
theorem name_in {v : Value} {t : PT} (h : VR v t) : (War.isName (txwT t) = true ∧ War.nameIn v = some (txwT t) ∧ t.tag = 4 ∧ txwT t = t.codes) ∨ (War.isName (txwT t) = false ∧ War.nameIn v = none) := by
  cases h with
  | text tt p =>
    have e : txwT (.mk 4 p 0 (utf8 tt) [] []) = txw 4 (utf8 tt) := rfl
    rw [e, txw_name]
    cases hn : War.isName (utf8 tt) with
    | true =>
      have e2 : txw 4 (utf8 tt) = utf8 tt := by unfold txw; rw [if_pos ⟨rfl, name_len hn⟩, wd_name hn]
      refine .inl ⟨rfl, ?_, rfl, e2⟩
      rw [e2]
      unfold War.nameIn War.textIs
      exact if_pos hn
    | false =>
      refine .inr ⟨rfl, ?_⟩
      unfold War.nameIn War.textIs
      exact if_neg (by rw [hn]; exact Bool.false_ne_true)
  | _ => exact .inr ⟨txw_no (by simp [PT.tag]), rfl⟩
end Ag

set_option maxRecDepth 100000
set_option maxHeartbeats 4000000
namespace Ag
open Sw War
/-! # What the two loops of read_told do -/
theorem vary_one {n : Nat} (h : n < 128) : (vary n).length = 1 := by
  unfold vary
  rw [if_pos h]
  rfl
theorem vary_two {n : Nat} (h : n < 16384) : (vary n).length ≤ 2 := by
  by_cases h1 : n < 128
  · rw [vary_one h1]; omega
  · unfold vary
    rw [if_neg h1, List.length_cons, vary_one (by omega)]
    omega
theorem nmB_len {b : Bytes} (h : b.length < 128) : (nmB b).length = b.length + 1 := by
  unfold nmB
  rw [List.length_append, vary_one h]
  omega
theorem isT6 {t : PT} (h : t.tag = 6) : isT t = if shpT t = bIn ++ 44 :: bSort then War.isName (txwT (kid t 0)) && War.isName (txwT (kid t 1))
  else if shpT t = bRecord then decide ((kid t 0).tag = 6) && (kid t 0).names.all War.isName else decide (shpT t = bList) := if_neg (by omega)
theorem isT_none {t : PT} (h : t.tag = 6) (h1 : t.names ≠ [bList]) (h2 : t.names ≠ [bRecord]) (h3 : t.names ≠ [bIn, bSort]) : isT t = false := by
  rw [isT6 h, if_neg fun z => h3 (shpT_sort.mp z).2, if_neg fun z => h2 (shpT_record.mp z).2]
  exact decide_eq_false fun z => h1 (shpT_list.mp z).2
theorem bList_len : bList.length = 4 := by decide +kernel
theorem bRecord_len : bRecord.length = 6 := by decide +kernel
theorem bIn_len : bIn.length = 2 := by decide +kernel
theorem bSort_len : bSort.length = 4 := by decide +kernel
theorem in_ne_list : ([bIn, bSort] : List Bytes) ≠ [bList] := by decide +kernel
theorem sum15 : ∀ ns : List Bytes, (∀ x ∈ ns, War.isName x = true) → (ns.map (fun n => (nmB n).length)).sum = (ns.map (·.length)).sum + ns.length
  | [], _ => rfl
  | a :: r, h => by
    have := sum15 r fun x hx => h x (List.mem_cons_of_mem _ hx)
    have hl := name_len (h a List.mem_cons_self)
    simp only [List.map_cons, List.sum_cons, List.length_cons]
    rw [nmB_len (by omega)]
    omega
theorem tk2 (n1 : Bytes) (v1 : Value) : War.toldKind (.rec_ (.cons n1 v1 .nil)) = if n1 = Sw.word "list" then (War.toldKind v1).map War.K.list else if n1 = Sw.word "record" then (match v1 with
      | .rec_ m => if m.names.all War.isName = true then (War.toldRow m).map War.K.record else none
      | _ => none)
    else none := by cases v1 <;> rfl
theorem fails {t : PT} {st : List PT} (w : WF t) (ht : isT t = true) (h : ∃ m, Reads m ((mem t).reverse ++ st) none) : ∃ m, Reads m (t :: st) none := by
  obtain ⟨m, hm⟩ := h
  exact reads_go w ht hm
theorem told_step {n : Nat} (ih1 : ∀ v t, VR v t → t.cost ≤ n → t.cost ≤ 8192 → TV v t) (ih2 : ∀ m ns ks, RR true m ns ks → costs ks ≤ n → costs ks ≤ 8192 → TR m ns ks) (v : Value) (t : PT) (h : VR v t) (hn : t.cost ≤ n + 1) (hc : t.cost ≤ 8192) : TV v t := by
  have w := vr_wf h hc
  cases h with
  | no p => exact fun st => reads_no w (isT_other (by simp [PT.tag]) (by simp [PT.tag]))
  | yes p => exact fun st => reads_no w (isT_other (by simp [PT.tag]) (by simp [PT.tag]))
  | num z p => exact fun st => reads_no w (isT_other (by simp [PT.tag]) (by simp [PT.tag]))
  | bytes z p => exact fun st => reads_no w (isT_other (by simp [PT.tag]) (by simp [PT.tag]))
  | moment z p => exact fun st => reads_no w (isT_other (by simp [PT.tag]) (by simp [PT.tag]))
  | id z p => exact fun st => reads_no w (isT_other (by simp [PT.tag]) (by simp [PT.tag]))
  | list r => exact fun st => reads_no w (isT_other (by simp [PT.tag]) (by simp [PT.tag]))
  | text tt p =>
    generalize ht : PT.mk 4 p 0 (utf8 tt) [] [] = t at w hn hc
    have tag : t.tag = 4 := by rw [← ht]; rfl
    have etx : txwT t = txw 4 (utf8 tt) := by rw [← ht]; rfl
    have eis : isT t = (wlK.map (·.1)).contains (txw 4 (utf8 tt)) := by
      unfold isT
      rw [if_pos tag, etx]
    have ek : War.toldKind (.text tt) = if utf8 tt = ascii "nothing" then some (War.K.nothing : Wk) else (War.plainWords.findIdx? fun (x : Bytes) => x == utf8 tt).map War.K.plain := by simp only [War.toldKind]
    unfold TV
    rw [ek]
    rcases told_text (c := utf8 tt) with ⟨k, hk, e⟩ | ⟨hno, e⟩
    · rw [e]
      have hin : utf8 tt ∈ wlK.map (·.1) := List.mem_map.mpr ⟨_, hk, rfl⟩
      have he := txw_self hin
      have hrow : ∀ F, rowOf F t = .word (utf8 tt) := fun F => by
        unfold rowOf
        rw [if_pos tag, etx, he]
      refine ⟨_, TOk.atom w (by rw [eis, List.contains_iff_mem, he]; exact hin) (mem_not6 (by omega)) (fun F => ⟨by rw [hrow]; exact ⟨k, hk⟩, fun T i hi => .word (by rw [hrow] at hi; exact hi) hk⟩) ?_ ?_⟩
      · have l := (wl_words hin).2.1
        rw [enc_plain hk, List.length_cons, nmB_len (by omega), PT.cost_eq, if_pos tag]
        have : t.codes = utf8 tt := by rw [← ht]; rfl
        rw [this]
        omega
      · rcases wlK_kind hk with ⟨a, rfl⟩ | rfl
        · unfold size; rfl
        · unfold size; rfl
    · rw [e]
      intro st
      refine reads_no w ?_
      rw [eis]
      cases q : (wlK.map (·.1)).contains (txw 4 (utf8 tt)) with
      | false => rfl
      | true => exact absurd (txw_word.mp (List.contains_iff_mem.mp q)) hno
  | @rec_ m p nn c ns ks hr =>
    generalize ht : PT.mk 6 p nn c ns ks = t at w hn hc
    have tag : t.tag = 6 := by rw [← ht]; rfl
    have enames : t.names = ns := by rw [← ht]; rfl
    have ekids : t.kids = ks := by rw [← ht]; rfl
    have ecost : t.cost = 1 + (ns.map (·.length)).sum + ns.length + costs ks := by rw [PT.cost_eq, if_neg (by omega), enames, ekids]
    cases m with
    | nil =>
      obtain ⟨rfl, rfl⟩ := rr_nil hr
      exact fun st => reads_no w (isT_none tag (by rw [enames]; simp) (by rw [enames]; simp) (by rw [enames]; simp))
    | cons n1 v1 r1 =>
      obtain ⟨t1, ns1, ks1, rfl, rfl, hv1, hr1⟩ := rr_inv hr
      cases r1 with
      | nil =>
        obtain ⟨rfl, rfl⟩ := rr_nil hr1
        have ec : t.cost = 2 + n1.length + t1.cost := by
          rw [ecost]
          simp [costs]
          omega
        have k0 : kid t 0 = t1 := by unfold kid; rw [ekids]; rfl
        have nos : ¬ shpT t = bIn ++ 44 :: bSort := fun z => by
          have := (shpT_sort.mp z).2
          rw [enames] at this
          simp at this
        by_cases c1 : n1 = bList
        · have hs : shpT t = bList := shpT_list.mpr ⟨tag, by rw [enames, c1]⟩
          have ist : isT t = true := by
            rw [isT6 tag, if_neg nos, if_neg (by rw [hs]; exact list_ne_rec)]
            exact decide_eq_true hs
          have em : mem t = [t1] := by unfold mem; rw [if_pos hs, ekids]
          have ek : War.toldKind (.rec_ (.cons n1 v1 .nil)) = (War.toldKind v1).map War.K.list := by
            rw [tk2, if_pos (show n1 = Sw.word "list" from c1)]
          have ihv := ih1 v1 t1 hv1 (by omega) (by omega)
          unfold TV at ihv ⊢
          rw [ek]
          cases q : War.toldKind v1 with
          | none =>
            rw [q] at ihv
            exact fun st => fails w ist (by rw [em]; exact ihv st)
          | some k =>
            rw [q] at ihv
            obtain ⟨ord, ok⟩ := ihv
            have hrow : ∀ F i, F t1.place = some i → rowOf F t = .list i := fun F i hF => by
              unfold rowOf
              rw [if_neg (by omega), if_pos hs]
              unfold inner
              rw [em]
              show Rw.list ((F t1.place).getD 0) = _
              rw [hF]
              rfl
            refine ⟨_, TOk.of w ist (fun m st res hm => by rw [em]; exact ok.reads m st res hm) (fun T F tb pw => ?_) ?_ ?_ ?_⟩
            · have pw1 : t1.places.Pairwise (· < ·) := by
                rw [PT.places_eq, ekids] at pw
                have := (List.pairwise_cons.mp pw).2
                unfold placesL placesL at this
                rw [List.append_nil] at this
                exact this
              obtain ⟨T', F', g1, g2, g3, g4, ⟨i, g5, g6⟩, g7⟩ := ok.nums T F tb pw1
              refine ⟨T', F', g1, g2, g3, g4, fun u hu => ?_, ?_, fun T2 p2 h2 => ?_, fun pl hp => ?_⟩
              · rw [em] at hu
                rw [List.mem_singleton.mp hu, g5]
                rfl
              · rw [hrow F' i g5]; trivial
              · rw [hrow F' i g5] at h2 ⊢
                exact .list h2 (g6.mono p2)
              · refine g7 pl fun z => hp ?_
                rw [ekids]
                unfold placesL
                exact List.mem_append_left _ z
            · have := ok.len; omega
            · have := ok.enc
              rw [enc_list]
              simp only [List.length_cons, List.length_append]
              rw [vary_one (by decide), nmB_len (by rw [bList_len]; decide), bList_len]
              omega
            · have := ok.sz
              unfold size
              omega
        · by_cases c2 : n1 = bRecord
          · have hs : shpT t = bRecord := shpT_record.mpr ⟨tag, by rw [enames, c2]⟩
            have ist : isT t = (decide (t1.tag = 6) && t1.names.all War.isName) := by
              rw [isT6 tag, if_neg nos, if_pos hs, k0]
            have em : mem t = t1.kids := by unfold mem; rw [if_neg (by rw [hs]; exact Ne.symm list_ne_rec), if_pos hs, k0]
            cases hv1 with
            | @rec_ m2 p2 nn2 cc2 ns2 ks2 hr2 =>
              have ek : War.toldKind (.rec_ (.cons n1 (.rec_ m2) .nil)) = if m2.names.all War.isName = true then (War.toldRow m2).map War.K.record else none := by
                rw [tk2, if_neg (show ¬ n1 = Sw.word "list" from c1), if_pos (show n1 = Sw.word "record" from c2)]
              rw [rr_names hr2] at ek
              have ec2 : (PT.mk 6 p2 nn2 cc2 ns2 ks2).cost = 1 + (ns2.map (·.length)).sum + ns2.length + costs ks2 := by rw [PT.cost_eq]; simp [PT.tag, PT.names, PT.kids]
              rw [ec2] at ec
              have ist2 : isT t = ns2.all War.isName := by rw [ist]; simp [PT.tag, PT.names]
              have em2 : mem t = ks2 := em
              unfold TV
              rw [ek]
              by_cases hall : ns2.all War.isName = true
              · rw [if_pos hall]
                have ihr := ih2 m2 ns2 ks2 hr2 (by omega) (by omega)
                unfold TR at ihr
                cases q : War.toldRow m2 with
                | none =>
                  rw [q] at ihr
                  exact fun st => fails w (ist2.trans hall) (by rw [em2]; exact ihr st)
                | some l =>
                  rw [q] at ihr
                  obtain ⟨ord, ok⟩ := ihr
                  have hrow : ∀ F, rowOf F t = .rcd ns2 (ks2.map fun u => (F u.place).getD 0) := fun F => by
                    unfold rowOf
                    rw [if_neg (by omega), if_neg (by rw [hs]; exact Ne.symm list_ne_rec), if_pos hs, k0]
                    unfold inner
                    rw [em2]
                    rfl
                  have hnames : ∀ x ∈ ns2, War.isName x = true := List.all_eq_true.mp hall
                  refine ⟨_, TOk.of w (ist2.trans hall) (fun m st res hm => by rw [em2]; exact ok.reads m st res hm) (fun T F tb pw => ?_) ?_ ?_ ?_⟩
                  · have pw1 : (placesL ks2).Pairwise (· < ·) := by
                      rw [PT.places_eq, ekids] at pw
                      have := (List.pairwise_cons.mp pw).2
                      unfold placesL placesL at this
                      rw [List.append_nil, PT.places_eq] at this
                      exact (List.pairwise_cons.mp this).2
                    obtain ⟨T', F', g1, g2, g3, g4, g5, g6, g7⟩ := ok.nums T F tb pw1
                    refine ⟨T', F', g1, g2, g3, g4, by rw [em2]; exact g5, ?_, fun T2 p2 h2 => ?_, fun pl hp => ?_⟩
                    · rw [hrow]
                      refine ⟨hnames, by rw [List.length_map]; exact ok.names, ?_⟩
                      omega
                    · rw [hrow] at h2 ⊢
                      exact .rcd h2 (g6.mono p2)
                    · refine g7 pl fun z => hp ?_
                      rw [ekids]
                      unfold placesL
                      refine List.mem_append_left _ ?_
                      rw [PT.places_eq]
                      exact List.mem_cons_of_mem _ z
                  · have := ok.len; omega
                  · have := ok.enc
                    have hsum := sum15 ns2 hnames
                    have hl := ok.tlen
                    rw [enc_record, hl]
                    simp only [List.length_cons, List.length_append]
                    have v2 := vary_two (n := ns2.length) (by omega)
                    rw [vary_one (by decide), nmB_len (by rw [bRecord_len]; decide), bRecord_len]
                    omega
                  · have := ok.sz
                    unfold size
                    omega
              · rw [if_neg hall]
                exact fun st => reads_no w (ist2.trans (Bool.eq_false_iff.mpr hall))
            | _ =>
              have ek : ∀ v : Value, (∀ m, v ≠ .rec_ m) → War.toldKind (.rec_ (.cons n1 v .nil)) = none := fun v hv => by
                rw [tk2, if_neg (show ¬ n1 = Sw.word "list" from c1), if_pos (show n1 = Sw.word "record" from c2)]
                cases v with
                | rec_ m => exact absurd rfl (hv m)
                | _ => rfl
              unfold TV
              rw [ek _ (by intro m z; cases z)]
              exact fun st => reads_no w (by rw [ist]; simp [PT.tag])
          · have ek : War.toldKind (.rec_ (.cons n1 v1 .nil)) = none := by
              rw [tk2, if_neg (show ¬ n1 = Sw.word "list" from c1), if_neg (show ¬ n1 = Sw.word "record" from c2)]
            unfold TV
            rw [ek]
            exact fun st => reads_no w (isT_none tag (by rw [enames]; simp [c1]) (by rw [enames]; simp [c2]) (by rw [enames]; simp))
      | cons n2 v2 r2 =>
        obtain ⟨t2, ns2, ks2, rfl, rfl, hv2, hr2⟩ := rr_inv hr1
        cases r2 with
        | nil =>
          obtain ⟨rfl, rfl⟩ := rr_nil hr2
          have k0 : kid t 0 = t1 := by unfold kid; rw [ekids]; rfl
          have k1 : kid t 1 = t2 := by unfold kid; rw [ekids]; rfl
          have ec : t.cost = 3 + n1.length + n2.length + t1.cost + t2.cost := by
            rw [ecost]
            simp [costs]
            omega
          by_cases c1 : n1 = bIn ∧ n2 = bSort
          · have hs : shpT t = bIn ++ 44 :: bSort := shpT_sort.mpr ⟨tag, by rw [enames, c1.1, c1.2]⟩
            have ist : isT t = (War.isName (txwT t1) && War.isName (txwT t2)) := by
              rw [isT6 tag, if_pos hs, k0, k1]
            have ek : War.toldKind (.rec_ (.cons n1 v1 (.cons n2 v2 .nil))) = match War.nameIn v1, War.nameIn v2 with
                | some a, some b => some (.sort a b)
                | _, _ => none := by
              simp only [War.toldKind]
              exact if_pos c1
            unfold TV
            rw [ek]
            rcases name_in hv1 with ⟨a1, a2, a3, a4⟩ | ⟨a1, a2⟩
            · rcases name_in hv2 with ⟨b1, b2, b3, b4⟩ | ⟨b1, b2⟩
              · rw [a2, b2]
                have hrow : ∀ F, rowOf F t = .sort (txwT t1) (txwT t2) := fun F => by
                  unfold rowOf
                  rw [if_neg (by omega), if_neg (by rw [hs]; exact Ne.symm list_ne_sort), if_neg (by rw [hs]; exact Ne.symm rec_ne_sort), k0, k1]
                have em : mem t = [] := by unfold mem; rw [if_neg (by rw [hs]; exact Ne.symm list_ne_sort), if_neg (by rw [hs]; exact Ne.symm rec_ne_sort)]
                refine ⟨_, TOk.atom w (by rw [ist, a1, b1]; rfl) em (fun F => ⟨by rw [hrow]; exact ⟨a1, b1⟩, fun T i hi => .sort (by rw [hrow] at hi; exact hi)⟩) ?_ (by unfold size; rfl)⟩
                have l1 := name_len a1
                have l2 := name_len b1
                have q1 : t1.cost = 1 + t1.codes.length + (t1.names.map (·.length)).sum + t1.names.length + costs t1.kids := by rw [PT.cost_eq, if_pos a3]
                have q2 : t2.cost = 1 + t2.codes.length + (t2.names.map (·.length)).sum + t2.names.length + costs t2.kids := by rw [PT.cost_eq, if_pos b3]
                rw [enc_sort a1 b1]
                simp only [List.length_cons, List.length_append]
                rw [vary_one (by decide), nmB_len (b := bIn) (by rw [bIn_len]; decide), nmB_len (b := bSort) (by rw [bSort_len]; decide), nmB_len (b := txwT t1) (by omega), nmB_len (b := txwT t2) (by omega), bIn_len, bSort_len]
                rw [a4, b4]
                omega
              · rw [a2, b2]
                exact fun st => reads_no w (by rw [ist, b1, Bool.and_false])
            · rw [a2]
              have : (match (none : Option Bytes), War.nameIn v2 with
                | some a, some b => some (War.K.sort a b : Wk)
                | _, _ => none) = none := rfl
              rw [this]
              exact fun st => reads_no w (by rw [ist, a1, Bool.false_and])
          · have ek : War.toldKind (.rec_ (.cons n1 v1 (.cons n2 v2 .nil))) = none := by
              simp only [War.toldKind]
              exact if_neg c1
            unfold TV
            rw [ek]
            exact fun st => reads_no w (isT_none tag (by rw [enames]; simp) (by rw [enames]; simp) (by rw [enames]; intro z; simp at z; exact c1 z))
        | cons n3 v3 r3 =>
          obtain ⟨t3, ns3, ks3, rfl, rfl, _, _⟩ := rr_inv hr2
          have ek : War.toldKind (.rec_ (.cons n1 v1 (.cons n2 v2 (.cons n3 v3 r3)))) = none := by simp only [War.toldKind]
          unfold TV
          rw [ek]
          exact fun st => reads_no w (isT_none tag (by rw [enames]; simp) (by rw [enames]; simp) (by rw [enames]; simp))
theorem place_lt_sub {t : PT} {ks : List PT} (h : (placesL (t :: ks)).Pairwise (· < ·)) : t.places.Pairwise (· < ·) ∧ (placesL ks).Pairwise (· < ·) ∧ ∀ p ∈ t.places, p ∉ placesL ks := by
  unfold placesL at h
  obtain ⟨h1, h2, h3⟩ := List.pairwise_append.mp h
  exact ⟨h1, h2, fun p hp hq => Nat.lt_irrefl _ (h3 p hp p hq)⟩
theorem told_row {n : Nat} (V : ∀ v t, VR v t → t.cost ≤ n + 1 → t.cost ≤ 8192 → TV v t) (ih2 : ∀ m ns ks, RR true m ns ks → costs ks ≤ n → costs ks ≤ 8192 → TR m ns ks) : ∀ (m : Row) (ns : List Bytes) (ks : List PT), RR true m ns ks → costs ks ≤ n + 1 → costs ks ≤ 8192 → TR m ns ks
  | .nil, ns, ks, h, hn, hc => by
    obtain ⟨rfl, rfl⟩ := rr_nil h
    have e : War.toldRow .nil = some .nil := by simp only [War.toldRow]
    unfold TR
    rw [e]
    exact ⟨[], fun m st res hm => ⟨m, by rw [map_nil_ord]; exact hm⟩, fun T F tb _ => ⟨T, F, .nil, tb, Pre.refl T, Nat.le_refl _, by simp, .nil, fun _ _ => rfl⟩, Nat.zero_le _, Nat.zero_le _, by unfold sizes; exact Nat.zero_le _, rfl, rfl⟩
  | .cons n1 v r, ns, ks, h, hn, hc => by
    obtain ⟨t, ns', ks', rfl, rfl, hv, hr⟩ := rr_inv h
    have c1 : 1 ≤ t.cost := by rw [PT.cost_eq]; omega
    have ec : costs (t :: ks') = t.cost + costs ks' := by rw [costs]
    rw [ec] at hn hc
    have a := V v t hv (by omega) (by omega)
    have b := ih2 r ns' ks' hr (by omega) (by omega)
    have e : War.toldRow (.cons n1 v r) = match War.toldKind v with
      | none => none
      | some k => (War.toldRow r).map fun (l : Wr) => .cons n1 k l := by
      simp only [War.toldRow]
      rfl
    have flip : ∀ st : List PT, (t :: ks').reverse ++ st = ks'.reverse ++ t :: st := fun st => by rw [List.reverse_cons, List.append_assoc]; rfl
    unfold TR at b ⊢
    unfold TV at a
    rw [e]
    cases qv : War.toldKind v with
    | none =>
      rw [qv] at a
      intro st
      obtain ⟨m1, h1⟩ := a st
      rw [flip]
      cases qr : War.toldRow r with
      | none =>
        rw [qr] at b
        exact b (t :: st)
      | some l =>
        rw [qr] at b
        obtain ⟨ord, ok⟩ := b
        exact ok.reads m1 (t :: st) none h1
    | some k =>
      rw [qv] at a
      obtain ⟨o1, ok1⟩ := a
      cases qr : War.toldRow r with
      | none =>
        rw [qr] at b
        exact fun st => by rw [flip]; exact b (t :: st)
      | some l =>
        rw [qr] at b
        obtain ⟨o2, ok2⟩ := b
        refine ⟨o2 ++ o1, fun m st res hm => ?_, fun T F tb pw => ?_, ?_, ?_, ?_, by rw [List.length_cons, List.length_cons, ok2.names], ?_⟩
        · obtain ⟨m1, h1⟩ := ok1.reads m st res hm
          obtain ⟨m2, h2⟩ := ok2.reads m1 (t :: st) _ h1
          refine ⟨m2, ?_⟩
          rw [flip]
          have : (res.map (o1 ++ ·)).map (o2 ++ ·) = res.map (o2 ++ o1 ++ ·) := by
            cases res with
            | none => rfl
            | some x => show some (o2 ++ (o1 ++ x)) = some (o2 ++ o1 ++ x); rw [List.append_assoc]
          rw [this] at h2
          exact h2
        · obtain ⟨p1, p2, p3⟩ := place_lt_sub pw
          obtain ⟨T1, F1, g1, g2, g3, g4, ⟨i, g5, g6⟩, g7⟩ := ok1.nums T F tb p1
          obtain ⟨T2, F2, q1, q2, q3, q4, q5, q6, q7⟩ := ok2.nums T1 F1 g2 p2
          have ht : F2 t.place = some i := (q7 _ (p3 _ (place_mem t))).trans g5
          refine ⟨T2, F2, by rw [List.reverse_append]; exact g1.append q1, q2, g3.trans q3, by rw [List.length_append]; omega, fun u hu => ?_, ?_, fun p hp => ?_⟩
          · rcases List.mem_cons.mp hu with rfl | hu
            · rw [ht]; rfl
            · exact q5 u hu
          · rw [List.map_cons, ht]
            exact .cons (g6.mono q3) q6
          · unfold placesL at hp
            rw [List.mem_append, not_or] at hp
            rw [q7 p hp.2, g7 p hp.1]
        · have := ok1.len
          have := ok2.len
          rw [List.length_append, ec]
          omega
        · have h1 := ok1.enc
          have h2 := ok2.enc
          rw [enc_row, ec]
          simp only [List.length_append, List.map_cons, List.sum_cons]
          omega
        · have h1 := ok1.sz
          have h2 := ok2.sz
          unfold sizes
          rw [ec]
          omega
        · rw [List.length_cons, ← ok2.tlen]
          simp only [War.KRow.told, Sw.Row.length]
theorem told_all : ∀ n : Nat, (∀ v t, VR v t → t.cost ≤ n → t.cost ≤ 8192 → TV v t) ∧ ∀ m ns ks, RR true m ns ks → costs ks ≤ n → costs ks ≤ 8192 → TR m ns ks
  | 0 => by
    refine ⟨fun v t h hn _ => ?_, fun m ns ks h hn hc => ?_⟩
    · have : 1 ≤ t.cost := by rw [PT.cost_eq]; omega
      omega
    · cases m with
      | nil =>
        obtain ⟨rfl, rfl⟩ := rr_nil h
        have e : War.toldRow .nil = some .nil := by simp only [War.toldRow]
        unfold TR
        rw [e]
        exact ⟨[], fun m st res hm => ⟨m, by rw [map_nil_ord]; exact hm⟩, fun T F tb _ => ⟨T, F, .nil, tb, Pre.refl T, Nat.le_refl _, by simp, .nil, fun _ _ => rfl⟩, Nat.zero_le _, Nat.zero_le _, by unfold sizes; exact Nat.zero_le _, rfl, rfl⟩
      | cons n1 v r =>
        obtain ⟨t, ns', ks', rfl, rfl, _, _⟩ := rr_inv h
        have c1 : 1 ≤ t.cost := by rw [PT.cost_eq]; omega
        rw [costs] at hn
        omega
  | n + 1 => ⟨told_step (told_all n).1 (told_all n).2, told_row (told_step (told_all n).1 (told_all n).2) (told_all n).2⟩
theorem told_value {v : Value} {t : PT} (h : VR v t) (hc : t.cost ≤ 8192) : TV v t := (told_all t.cost).1 v t h (Nat.le_refl _) hc
end Ag

set_option maxRecDepth 100000
set_option maxHeartbeats 2000000
namespace Ag
open PySem PySem.Spec PyProof.Rows L2
/-! # The table of kinds on the heap -/
def Rw.key : Rw → NestedKey
  | .word b => .tup [.text (bS b)]
  | .list k => .tup [.text "list", .num k]
  | .rcd ns ks => .tup [.text "record", .tup (ns.map fun n => .text (bS n)), .tup (ks.map fun k => .num (k : Nat))]
  | .sort m n => .tup [.text "sort", .text (bS m), .text (bS n)]
theorem texts_inj : ∀ {a b : List Sw.Bytes}, (a.map fun n => NestedKey.text (bS n)) = b.map (fun n => NestedKey.text (bS n)) → a = b
  | [], [], _ => rfl
  | [], _ :: _, h => by cases h
  | _ :: _, [], h => by cases h
  | x :: a, y :: b, h => by
    rw [List.map_cons, List.map_cons] at h
    injection h with h1 h2
    injection h1 with h1
    rw [bS_inj h1, texts_inj h2]
theorem nums_inj : ∀ {a b : List Nat}, (a.map fun k => NestedKey.num (k : Nat)) = b.map (fun k => NestedKey.num (k : Nat)) → a = b
  | [], [], _ => rfl
  | [], _ :: _, h => by cases h
  | _ :: _, [], h => by cases h
  | x :: a, y :: b, h => by
    rw [List.map_cons, List.map_cons] at h
    injection h with h1 h2
    injection h1 with h1
    rw [nums_inj h2, Int.ofNat_inj.mp h1]
theorem key_inj {r r' : Rw} (h : r.key = r'.key) : r = r' := by
  cases r <;> cases r' <;> simp only [Rw.key, NestedKey.tup.injEq, List.cons.injEq, NestedKey.text.injEq, NestedKey.num.injEq, and_true, true_and, reduceCtorEq, and_false, false_and] at h
  · rw [bS_inj h]
  · rw [Int.ofNat_inj.mp h]
  · rw [texts_inj h.1, nums_inj h.2]
  · rw [bS_inj h.1, bS_inj h.2]
theorem depth_texts : ∀ a : List Sw.Bytes, NestedKey.depthAll (a.map fun n => NestedKey.text (bS n)) = 0
  | [] => rfl
  | x :: a => by
    rw [List.map_cons]
    simp only [NestedKey.depthAll, NestedKey.depth]
    rw [depth_texts a]
    rfl
theorem depth_nums : ∀ a : List Nat, NestedKey.depthAll (a.map fun k => NestedKey.num (k : Nat)) = 0
  | [] => rfl
  | x :: a => by
    rw [List.map_cons]
    simp only [NestedKey.depthAll, NestedKey.depth]
    rw [depth_nums a]
    rfl
theorem key_depth (r : Rw) : r.key.depth ≤ 8 := by
  cases r with
  | word b => simp [Rw.key, NestedKey.depth, NestedKey.depthAll]
  | list k => simp [Rw.key, NestedKey.depth, NestedKey.depthAll]
  | rcd ns ks =>
    simp only [Rw.key, NestedKey.depth, NestedKey.depthAll, depth_texts, depth_nums]
    decide
  | sort m n => simp [Rw.key, NestedKey.depth, NestedKey.depthAll]
/-- the table's numbers -/
def nums (T : List Rw) : List (NestedKey × V) := T.zipIdx.map fun x => (x.1.key, V.int (x.2 : Nat))
theorem nums_len (T : List Rw) : (nums T).length = T.length := by unfold nums; rw [List.length_map, List.length_zipIdx]
theorem nums_snoc (T : List Rw) (r : Rw) : nums (T ++ [r]) = nums T ++ [(r.key, V.int (T.length : Nat))] := by
  unfold nums
  rw [List.zipIdx_append, List.map_append]
  simp
theorem valN_pos {p : NestedKey × V} {r : List (NestedKey × V)} {k : NestedKey} (e : p.1 = k) : valN (p :: r) k = some p.2 := by simp [valN, e]
theorem valN_neg {p : NestedKey × V} {r : List (NestedKey × V)} {k : NestedKey} (e : ¬ p.1 = k) : valN (p :: r) k = valN r k := by simp [valN, e]
theorem ask_pos {e : (Nat × Nat) × Option Nat} {A : Agd} {p : Nat × Nat} (h : e.1 = p) : ask (e :: A) p = some e.2 := by simp [ask, h]
theorem ask_neg {e : (Nat × Nat) × Option Nat} {A : Agd} {p : Nat × Nat} (h : ¬ e.1 = p) : ask (e :: A) p = ask A p := by simp [ask, h]
theorem nums_at (r : Rw) : ∀ (T : List Rw) (k : Nat), valN ((T.zipIdx k).map fun x => (x.1.key, V.int (x.2 : Nat))) r.key = (pos T r).map fun i => V.int ((i + k : Nat) : Int)
  | [], _ => rfl
  | t :: T, k => by
    have ih := nums_at r T (k + 1)
    rw [List.zipIdx_cons, List.map_cons]
    unfold pos
    by_cases e : t = r
    · rw [if_pos e, valN_pos (by rw [e])]
      show some (V.int (k : Nat)) = some (V.int ((0 + k : Nat) : Int))
      rw [Nat.zero_add]
    · rw [if_neg e, valN_neg (fun z => e (key_inj z)), ih, Option.map_map]
      congr 1
      funext i
      show V.int ((i + (k + 1) : Nat) : Int) = V.int ((i + 1 + k : Nat) : Int)
      rw [show i + (k + 1) = i + 1 + k by omega]
theorem nums_val (T : List Rw) (r : Rw) : valN (nums T) r.key = (pos T r).map fun i => V.int (i : Nat) := nums_at r T 0
theorem pos_snoc : ∀ {T : List Rw} {r : Rw}, pos T r = none → pos (T ++ [r]) r = some T.length
  | [], r, _ => by
    show pos [r] r = _
    unfold pos
    rw [if_pos rfl]
    rfl
  | t :: T, r, h => by
    rw [List.cons_append]
    unfold pos at h ⊢
    by_cases e : t = r
    · rw [if_pos e] at h; cases h
    · rw [if_neg e] at h ⊢
      rw [pos_snoc (Option.map_eq_none_iff.mp h)]
      rfl
/-- what's known of a pair, as it lies in the dict -/
def cV : Option Nat → V
  | none => .int (-1)
  | some n => .int (n : Nat)
def pk (p : Nat × Nat) : List Key := [Sum.inl (p.1 : Int), Sum.inl (p.2 : Int)]
def agV (A : Agd) : List (List Key × V) := A.map fun e => (pk e.1, cV e.2)
theorem pk_inj {p q : Nat × Nat} (h : pk p = pk q) : p = q := by
  unfold pk at h
  injection h with h1 h2
  injection h2 with h2 _
  injection h1 with h1
  injection h2 with h2
  obtain ⟨a, b⟩ := p
  obtain ⟨c, d⟩ := q
  simp only at h1 h2
  rw [Int.ofNat_inj.mp h1, Int.ofNat_inj.mp h2]
theorem agV_val (A : Agd) (p : Nat × Nat) : valV (agV A) (pk p) = (ask A p).map cV := by
  induction A with
  | nil => rfl
  | cons e A ih =>
    show valV ((pk e.1, cV e.2) :: agV A) (pk p) = _
    by_cases h : e.1 = p
    · rw [valV_pos (by rw [h]), ask_pos h]
      rfl
    · rw [valV_neg (fun z => h (pk_inj z)), ask_neg h]
      exact ih
theorem agV_snoc (A : Agd) (p : Nat × Nat) (c : Option Nat) : agV (A ++ [(p, c)]) = agV A ++ [(pk p, cV c)] := by unfold agV; rw [List.map_append]; rfl
theorem agV_put {A : Agd} {p : Nat × Nat} {c : Option Nat} (h : ask A p = none) : putK (agV A) (pk p) (cV c) = agV (A ++ [(p, c)]) := by
  rw [agV_snoc]
  unfold putK
  rw [valV_any, agV_val, h]
  rfl
/-- where a table's parts lie -/
structure KI where
  rl : Addr
  nd : Addr
  ad : Addr
  sd : Addr
  bd : Addr
def kF (i : KI) : List (Str × V) := [("rows", .ref i.rl), ("numbers", .ref i.nd), ("agreed", .ref i.ad), ("sorts", .ref i.sd), ("bases", .ref i.bd)]
theorem kF_rows (i : KI) : (kF i).lookup ("rows" : Str) = some (.ref i.rl) := by rfl
theorem kF_numbers (i : KI) : (kF i).lookup ("numbers" : Str) = some (.ref i.nd) := by rfl
theorem kF_agreed (i : KI) : (kF i).lookup ("agreed" : Str) = some (.ref i.ad) := by rfl
structure KAt (P : Program) (w : World) (CK : Addr) (H : Hp) (ka : Addr) (i : KI) (T : List Rw) (A : Agd) : Prop where
  obj : ∃ dx, H ka = some (.ins CK dx (kF i))
  rows : ∃ as : List Addr, H i.rl = some (.lst (as.map V.ref)) ∧ Paired (fun r a => HV H r.key (.ref a)) T as
  num : ND P w H i.nd (nums T)
  agr : H i.ad = some (.dT (agV A))
theorem KAt.on {P : Program} {w : World} {CK : Addr} {H H' : Hp} {ka : Addr} {i : KI} {T : List Rw} {A : Agd} (h : KAt P w CK H ka i T A) (e : ∀ b o, H b = some o → H' b = some o) : KAt P w CK H' ka i T A := by
  obtain ⟨dx, h1⟩ := h.obj
  obtain ⟨as, h2, h3⟩ := h.rows
  exact ⟨⟨dx, e _ _ h1⟩, ⟨as, e _ _ h2, Paired.mapP h3 fun _ _ z => HV.on (fun b ys q => e _ _ q) _ _ z⟩, h.num.on (e _) (fun b ys q => e _ _ q), e _ _ h.agr⟩
theorem paired_get {α β : Type} {R : α → β → Prop} {xs : List α} {ys : List β} (h : Paired R xs ys) : ∀ {i : Nat} {x : α}, xs[i]? = some x → ∃ y, ys[i]? = some y ∧ R x y := by
  induction h with
  | nil => intro i x e; simp at e
  | cons r t ih =>
    intro i x e
    cases i with
    | zero =>
      rw [List.getElem?_cons_zero] at e
      cases e
      exact ⟨_, List.getElem?_cons_zero, r⟩
    | succ i =>
      rw [List.getElem?_cons_succ] at e
      obtain ⟨y, h1, h2⟩ := ih e
      exact ⟨y, by rw [List.getElem?_cons_succ]; exact h1, h2⟩
section
variable {P : Program} {w : World} {K : PySem.W.Frag} {mg : Str → Option Value} {base : Heap} {CB fB CV CC CK aKW aPK : Addr}
/-! ## put -/
def spPut (P : Program) (w : World) (CK : Addr) : Sp := fun vs H Q _ => ∃ (ka row : Addr) (i : KI) (T : List Rw) (A : Agd) (r : Rw), vs = [.ref ka, .ref row] ∧ KAt P w CK H ka i T A ∧ HV H r.key (.ref row) ∧ T.length ≤ 1000000 ∧
  ∀ H', KAt P w CK H' ka i (putT T r) A → Kp [i.rl, i.nd] H H' → Q (.int (putN T r : Nat)) H'
theorem scPut : FnScope ["self", "row"] ["self", "row"] (defScope sPut) := ⟨rfl, rfl, rfl, by decide +kernel, rfl, by decide +kernel, by decide +kernel⟩
theorem u9 {k : Nat} {A : Around} (hr : Room k A) : A.units + 9 < cLine := by
  have := hr.units
  omega
theorem ok_put {f : Addr} {fd : FuncData} (T : Txt K mg CB fB CV CC CK aKW aPK) (F : Fun K "put" "Kinds.put" sPut f fd) : FnOk P w K mg base CX0 1 f fd ["self", "row"] (spPut P w CK) := by
  refine F.ok scPut (fun vs H Q E h => ?_) (fun cdv A outer s H vs Q E hr h => ⟨_,
    pss_cons (ps_if (pt_cmp (pc_nnotin (u9 hr) (pv 1) (pe_fld (pv 0) rfl)))
      (pss_cons (ps_nput (u9 hr) (pe_fld (pv 0) rfl) (pv 1) (pe_callB call_len (by rfl) T.len PySem.boot_len (pa_cons (pe_fld (pv 0) rfl) pa_nil)) rfl)
      (pss_one (ps_expr (pe_bm PySem.F.plainAttrs_list PySem.F.slot_list_append PySem.F.type_list_append mt_append (pe_fld (pv 0) rfl) (pa_cons (pv 1) pa_nil))))) pss_nil)
    (pss_one (ps_ret (pe_nget (u9 hr) (pe_fld (pv 0) rfl) (pv 1) (fun _ _ => rfl)))), ?_⟩)
  · obtain ⟨ka, row, i, T, A, r, rfl, _⟩ := h
    rfl
  · obtain ⟨ka, row, i, tb, A, r, rfl, ka1, hrow, hl, k⟩ := h
    obtain ⟨dx, ek⟩ := id ka1.obj
    obtain ⟨as, er, pr⟩ := id ka1.rows
    have hnv := nums_val tb r
    refine ⟨_, rfl, _, rfl, ka, CK, dx, _, _, rfl, ek, T.clK, T.kNumbers, kF_numbers i, i.nd, row, _, r.key, rfl, rfl, ka1.num, hrow, key_depth r, _, rfl, ?_⟩
    rw [hnv]
    cases hp : pos tb r with
    | some n =>
      have e1 : putT tb r = tb := by unfold putT; rw [hp]
      have e2 : putN tb r = n := by unfold putN; rw [hp]; rfl
      rw [e1, e2] at k
      refine iteF ⟨_, rfl, ka, CK, dx, _, _, rfl, ek, T.clK, T.kNumbers, kF_numbers i, _, rfl, i.nd, row, _, r.key, _, rfl, rfl, ka1.num, hrow, key_depth r, ?_, k H ka1 (Kp.refl _ _)⟩
      rw [hnv, hp]
      rfl
    | none =>
      have e1 : putT tb r = tb ++ [r] := by unfold putT; rw [hp]
      have e2 : putN tb r = tb.length := by unfold putN; rw [hp]; rfl
      rw [e1, e2] at k
      have la : as.length = tb.length := (Paired.length pr).symm
      refine iteT ⟨_, rfl, ka, CK, dx, _, _, rfl, ek, T.clK, T.kRows, kF_rows i, _, _, rfl, .inl ⟨_, SqL.of er, rfl⟩, _, rfl, ka, CK, dx, _, _, rfl, ek, T.clK, T.kNumbers, kF_numbers i, _, rfl, i.nd, row, _, r.key, rfl, rfl, ka1.num, hrow, key_depth r, by rw [hnv, hp]; rfl, by rw [nums_len, sz_eq]; omega, fun xs g => ?_⟩
      rw [List.length_map, la] at g
      rw [← nums_snoc] at g
      obtain ⟨ys, end_, _⟩ := id ka1.num
      have nrd : i.rl ≠ i.nd := ne_of er end_ (fun z => nomatch z)
      have nkd : ka ≠ i.nd := ne_of ek end_ (fun z => nomatch z)
      have nad : i.ad ≠ i.nd := ne_of ka1.agr end_ (fun z => nomatch z)
      have nkr : ka ≠ i.rl := ne_of ek er (fun z => nomatch z)
      have nar : i.ad ≠ i.rl := ne_of ka1.agr er (fun z => nomatch z)
      have tk : ∀ {o o' : HO} {H2 : Hp} (b : Addr) (zs : List V), H b = some (.tup zs) → (upd (upd H i.nd (NDO P w i.nd xs)) i.rl (.lst (as.map V.ref ++ [.ref row]))) b = some (.tup zs) := fun b zs e => by
        rw [upd_ne (ne_of e er (fun z => nomatch z)), upd_ne (ne_of e end_ (fun z => nomatch z))]
        exact e
      refine ⟨_, rfl, ka, CK, dx, _, _, rfl, (upd_ne nkd).trans ek, T.clK, T.kRows, kF_rows i, .inl ⟨rfl, _, SqL.of ((upd_ne nrd).trans er)⟩, _, rfl, i.rl, _, _, rfl, rfl, (upd_ne nrd).trans er, by rw [List.length_map, la, sz_eq]; omega, ?_⟩
      have tk2 : ∀ (b : Addr) (zs : List V), (upd H i.nd (NDO P w i.nd xs)) b = some (.tup zs) → (upd (upd H i.nd (NDO P w i.nd xs)) i.rl (.lst (as.map V.ref ++ [.ref row]))) b = some (.tup zs) := fun b zs e => by
        rw [upd_ne (ne_of e ((upd_ne nrd).trans er) (fun z => nomatch z))]
        exact e
      have kat : KAt P w CK (upd (upd H i.nd (NDO P w i.nd xs)) i.rl (.lst (as.map V.ref ++ [.ref row]))) ka i (tb ++ [r]) A := ⟨⟨dx, by rw [upd_ne nkr, upd_ne nkd]; exact ek⟩,
        ⟨as ++ [row], by rw [upd_same, List.map_append]; rfl, paired_snoc (Paired.mapP pr fun _ _ z => HV.on (fun b zs e => tk (o := .lst []) (o' := .lst []) (H2 := H) b zs e) _ _ z) (HV.on (fun b zs e => tk (o := .lst []) (o' := .lst []) (H2 := H) b zs e) _ _ hrow)⟩,
        g.on (fun o e => (upd_ne (Ne.symm nrd)).trans e) tk2, by rw [upd_ne nar, upd_ne nad]; exact ka1.agr⟩
      obtain ⟨dx2, ek2⟩ := id kat.obj
      refine ⟨_, rfl, ka, CK, dx2, _, _, rfl, ek2, T.clK, T.kNumbers, kF_numbers i, _, rfl, i.nd, row, _, r.key, _, rfl, rfl, kat.num, HV.on (fun b zs e => tk (o := .lst []) (o' := .lst []) (H2 := H) b zs e) _ _ hrow, key_depth r, ?_, k _ kat ?_⟩
      · rw [nums_val]
        have := pos_snoc hp
        rw [this]
        rfl
      · exact ((Kp.refl _ _).write' (by simp)).write' (by simp)
end
end Ag

set_option maxRecDepth 100000
set_option maxHeartbeats 2000000
namespace Ag
open PySem PySem.Spec PyProof.Rows L2
/-- the table that each begins with -/
def T0 : List Rw := wlK.map fun x => Rw.word x.1
theorem T0_nodup : T0.Nodup := by decide +kernel
theorem T0_len : T0.length = 7 := rfl
theorem T0_tab : Tab T0 := ⟨T0_nodup, by decide +kernel, fun r hr => by
  obtain ⟨x, hx, rfl⟩ := List.mem_map.mp hr
  exact ⟨x.2, hx⟩⟩
theorem pos_no : ∀ {T : List Rw} {r : Rw}, r ∉ T → pos T r = none
  | [], _, _ => rfl
  | t :: T, r, h => by
    rw [List.mem_cons, not_or] at h
    unfold pos
    rw [if_neg (fun z => h.1 z.symm), pos_no h.2]
    rfl
theorem T0_put {j : Nat} {r : Rw} (h : T0[j]? = some r) : putT (T0.take j) r = T0.take (j + 1) := by
  have hn : r ∉ T0.take j := fun z => by
    obtain ⟨i, hi⟩ := List.mem_iff_getElem?.mp z
    obtain ⟨h1, h2⟩ := List.getElem?_eq_some_iff.mp hi
    rw [List.length_take] at h1
    rw [List.getElem?_take_of_lt (by omega)] at hi
    have := at_inj T0_nodup hi h
    omega
  unfold putT
  rw [pos_no hn, take_more h]
theorem pk_T0 : pkList = (T0.take 6).map (fun r => match r with | .word b => bS b | _ => bS []) := by decide +kernel
theorem grow {H : Hp} {c x : Addr} {o o' : HO} (hc : H c = none) (hx : x ≠ c) : Kp [x] H (upd (upd H c o) x o') ∧ upd (upd H c o) x o' c = some o :=
  ⟨fun b u e n => by rw [upd_ne (fun z => n (by rw [z]; simp)), upd_ne (ne_of_none e hc)]; exact e, by rw [upd_ne (Ne.symm hx), upd_same]⟩
theorem Kp.none {S : List Addr} {H H' : Hp} {b : Addr} (k : Kp S H H') (h : H' b = .none) (n : b ∉ S) : H b = .none := by
  cases e : H b with
  | none => rfl
  | some o => rw [k b o e n] at h; cases h
section
variable {P : Program} {w : World} {K : PySem.W.Frag} {mg : Str → Option Value} {base : Heap} {CB fB CV CC CK aKW aPK : Addr}
theorem pk_at {j : Nat} {v : V} (h : (pkList.map V.str)[j]? = some v) : ∃ b, T0[j]? = some (.word b) ∧ v = .str (bS b) := by
  rw [pk_T0, List.map_map, List.getElem?_map] at h
  obtain ⟨r, hr, rfl⟩ := Option.map_eq_some_iff.mp h
  obtain ⟨h1, _⟩ := List.getElem?_eq_some_iff.mp hr
  rw [List.length_take] at h1
  rw [List.getElem?_take_of_lt (by omega)] at hr
  obtain ⟨x, hx, rfl⟩ := List.mem_map.mp (List.mem_of_getElem? hr)
  exact ⟨x.1, hr, rfl⟩
/-! ## the __init__ of Kinds -/
def spKInit (P : Program) (w : World) (CK : Addr) : Sp := fun vs H Q _ => ∃ (x dx : Addr), vs = [.ref x] ∧ H x = some (.ins CK dx []) ∧ ∀ (i : KI) (H' : Hp), KAt P w CK H' x i T0 [] → (∀ b ∈ [i.rl, i.nd, i.ad], H b = none) → Kp [x] H H' → Q .non H'
theorem scKInit : FnScope ["self", "word"] ["self"] (defScope sKindsInit) := ⟨rfl, rfl, rfl, by decide +kernel, rfl, by decide +kernel, by decide +kernel⟩
theorem ok_kInit {f fP : Addr} {fd fdP : FuncData} {psP : List Str} (T : Txt K mg CB fB CV CC CK aKW aPK) (F : Fun K "__init__" "Kinds.__init__" sKindsInit f fd) (GP : Gm P w K mg base CK CX0 1 "put" fP fdP psP (spPut P w CK)) : FnOk P w K mg base CX0 2 f fd ["self"] (spKInit P w CK) := by
  refine F.ok scKInit (fun vs H Q E h => ?_) (fun cdv A outer s H vs Q E hr h => ⟨_,
    pss_cons (ps_fld (pv 0) (pe_lst pa_nil) rfl) (pss_cons (ps_fld (pv 0) pe_nnew rfl) (pss_cons (ps_fld (pv 0) pe_dnewT rfl) (pss_cons (ps_fld (pv 0) pe_dnewK rfl) (pss_cons (ps_fld (pv 0) pe_dnewK rfl)
    (pss_cons (ps_for PassesOwn.never rfl (pi_tup (pe_gr T.pk)) (pg_name (i := 1) scKInit.nd rfl (Or.inl rfl)) (pss_one (ps_expr (pe_meth (pv 0) T.clK GP.M GP.F hr GP.b .nil pass0 (pa_cons (pe_tup (pa_cons (pv 1) pa_nil)) pa_nil)))))
    (pss_one (ps_expr (pe_meth (pv 0) T.clK GP.M GP.F hr GP.b .nil pass0 (pa_cons (pe_tup (pa_cons pe_str pa_nil)) pa_nil))))))))), ?_⟩)
  · obtain ⟨x, dx, rfl, _⟩ := h
    rfl
  · obtain ⟨x, dx, rfl, hx, k⟩ := h
    refine ⟨(by decide), fun c1 n1 => ?_⟩
    have x1 := ne_of_none hx n1
    refine ⟨_, rfl, x, CK, dx, [], rfl, (upd_ne x1).trans hx, T.clK, T.kRows, (by show 0 < 1000; decide), ?_⟩
    intro c2 n2
    have x2 := ne_of_none upd_same n2
    refine ⟨_, rfl, x, CK, dx, _, rfl, (upd_ne x2).trans upd_same, T.clK, T.kNumbers, (by show 1 < 1000; decide), ?_⟩
    intro c3 n3
    have x3 := ne_of_none upd_same n3
    refine ⟨_, rfl, x, CK, dx, _, rfl, (upd_ne x3).trans upd_same, T.clK, T.kAgreed, (by show 2 < 1000; decide), ?_⟩
    intro c4 n4
    have x4 := ne_of_none upd_same n4
    refine ⟨_, rfl, x, CK, dx, _, rfl, (upd_ne x4).trans upd_same, T.clK, T.kSorts, (by show 3 < 1000; decide), ?_⟩
    intro c5 n5
    have x5 := ne_of_none upd_same n5
    refine ⟨_, rfl, x, CK, dx, _, rfl, (upd_ne x5).trans upd_same, T.clK, T.kBases, (by show 4 < 1000; decide), ?_⟩
    have a1 := grow (o := .lst []) (o' := .ins CK dx (putF "rows" (.ref c1) [])) n1 x1
    have a2 := grow (o := NDO P w c2 []) (o' := .ins CK dx (putF "numbers" (.ref c2) (putF "rows" (.ref c1) []))) n2 x2
    have a3 := grow (o := .dT []) (o' := .ins CK dx (putF "agreed" (.ref c3) (putF "numbers" (.ref c2) (putF "rows" (.ref c1) [])))) n3 x3
    have a4 := grow (o := .dK []) (o' := .ins CK dx (putF "sorts" (.ref c4) (putF "agreed" (.ref c3) (putF "numbers" (.ref c2) (putF "rows" (.ref c1) []))))) n4 x4
    have a5 := grow (o := .dK []) (o' := .ins CK dx (putF "bases" (.ref c5) (putF "sorts" (.ref c4) (putF "agreed" (.ref c3) (putF "numbers" (.ref c2) (putF "rows" (.ref c1) [])))))) n5 x5
    have b2 := a1.1.trans a2.1
    have b3 := b2.trans a3.1
    have b4 := b3.trans a4.1
    have b5 := b4.trans a5.1
    have f1 : H c1 = none := n1
    have f2 : H c2 = none := a1.1.none n2 (by simp [Ne.symm x2])
    have f3 : H c3 = none := b2.none n3 (by simp [Ne.symm x3])
    have k1 := ((a2.1.trans a3.1).trans a4.1).trans a5.1 _ _ a1.2 (by simp [Ne.symm x1])
    have k2 := (a3.1.trans a4.1).trans a5.1 _ _ a2.2 (by simp [Ne.symm x2])
    have k3 := a4.1.trans a5.1 _ _ a3.2 (by simp [Ne.symm x3])
    have c12 : c1 ≠ c2 := ne_of_none a1.2 n2
    have c13 : c1 ≠ c3 := ne_of_none (a2.1 _ _ a1.2 (by simp [Ne.symm x1])) n3
    have c23 : c2 ≠ c3 := ne_of_none a2.2 n3
    have kat0 : KAt P w CK _ x ⟨c1, c2, c3, c4, c5⟩ (T0.take 0) [] := ⟨⟨dx, upd_same⟩, ⟨[], k1, .nil⟩, nd_empty k2, k3⟩
    refine ⟨aPK, rfl, ⟨_, T.pkT _⟩, for_tup (K := K) (a := aPK) (xs := pkList.map V.str) (fun j σ H' => (∃ v, σ = [some (.ref x), v]) ∧ KAt P w CK H' x ⟨c1, c2, c3, c4, c5⟩ (T0.take j) [] ∧ Kp [x] H H') ⟨⟨none, rfl⟩, kat0, b5⟩ (fun j σ H' _ h => T.pkT H') ?_ ?_⟩
    · rintro j v σ H1 hv ⟨⟨u, rfl⟩, kat, kp⟩
      obtain ⟨b, hb, rfl⟩ := pk_at hv
      obtain ⟨dx1, e1⟩ := id kat.obj
      refine ⟨_, rfl, x, dx1, _, rfl, e1, by rfl, _, rfl, (by show 1 ≤ sizeLine; decide), fun t ht => ?_⟩
      have hl : (T0.take j).length ≤ 7 := by rw [List.length_take, T0_len]; exact Nat.min_le_right _ _
      refine ⟨x, t, _, _, _, .word b, rfl, kat.on (fun b o e => by rw [upd_ne (ne_of_none e ht)]; exact e), ⟨t, _, rfl, upd_same, _, _, rfl, rfl, rfl⟩, by omega, fun H2 kat2 kp2 => ?_⟩
      rw [T0_put hb] at kat2
      refine ⟨⟨_, rfl⟩, kat2, fun b o e n => kp2 b o (by
        have e2 := kp b o e n
        rw [upd_ne (ne_of_none e2 ht)]
        exact e2) fun z => ?_⟩
      rcases List.mem_cons.mp z with z | z
      · rw [z, show H c1 = none from f1] at e; cases e
      · rw [one_in z, show H c2 = none from f2] at e; cases e
    · rintro σ H1 ⟨⟨u, rfl⟩, kat, kp⟩
      obtain ⟨dx1, e1⟩ := id kat.obj
      refine ⟨_, rfl, x, dx1, _, rfl, e1, by rfl, (by show 1 ≤ sizeLine; decide), fun t ht => ?_⟩
      have hl : (T0.take 6).length ≤ 7 := by rw [List.length_take, T0_len]; exact Nat.min_le_right _ _
      refine ⟨x, t, _, _, _, .word bNothing, rfl, kat.on (fun b o e => by rw [upd_ne (ne_of_none e ht)]; exact e), ⟨t, _, rfl, upd_same, _, _, rfl, by rfl, rfl⟩, by exact Nat.le_trans hl (by decide), fun H2 kat2 kp2 => ?_⟩
      have : putT (T0.take 6) (.word bNothing) = T0 := T0_put (j := 6) (by decide +kernel)
      have kat3 : KAt P w CK H2 x ⟨c1, c2, c3, c4, c5⟩ (putT (T0.take 6) (.word bNothing)) [] := kat2
      rw [this] at kat3
      refine k _ H2 kat3 (fun b hb => ?_) (fun b o e n => kp2 b o (by
        have e2 := kp b o e n
        rw [upd_ne (ne_of_none e2 ht)]
        exact e2) fun z => ?_)
      · simp only [List.mem_cons, List.not_mem_nil, or_false] at hb
        rcases hb with rfl | rfl | rfl
        · exact f1
        · exact f2
        · exact f3
      · rcases List.mem_cons.mp z with z | z
        · rw [z, show H c1 = none from f1] at e; cases e
        · rw [one_in z, show H c2 = none from f2] at e; cases e
end
end Ag

set_option maxRecDepth 100000
set_option maxHeartbeats 2000000
namespace Ag
open PySem PySem.Spec PyProof.Rows L2
/-! ## rows as tuples -/
def txV (ns : List Sw.Bytes) : List V := ns.map fun n => V.str (bS n)
def inV2 (ks : List Nat) : List V := ks.map fun k => V.int (k : Nat)
theorem hvs_texts {H : Hp} : ∀ {ns : List Sw.Bytes} {xs : List V}, HVs H (ns.map fun n => .text (bS n)) xs → xs = txV ns
  | [], xs, h => h
  | n :: ns, xs, ⟨y, ys, e, h1, h2⟩ => by
    rw [e, show y = V.str (bS n) from h1, hvs_texts h2]
    rfl
theorem hvs_nums {H : Hp} : ∀ {ks : List Nat} {xs : List V}, HVs H (ks.map fun k => .num (k : Nat)) xs → xs = inV2 ks
  | [], xs, h => h
  | n :: ns, xs, ⟨y, ys, e, h1, h2⟩ => by
    rw [e, show y = V.int (n : Nat) from h1, hvs_nums h2]
    rfl
theorem texts_hvs {H : Hp} : ∀ ns : List Sw.Bytes, HVs H (ns.map fun n => .text (bS n)) (txV ns)
  | [] => rfl
  | n :: ns => ⟨_, _, rfl, rfl, texts_hvs ns⟩
theorem nums_hvs {H : Hp} : ∀ ks : List Nat, HVs H (ks.map fun k => .num (k : Nat)) (inV2 ks)
  | [] => rfl
  | n :: ns => ⟨_, _, rfl, rfl, nums_hvs ns⟩
/-- a row's tuple -/
def RowT (H : Hp) (a : Addr) : Rw → Prop
  | .word b => H a = some (.tup [.str (bS b)])
  | .list k => H a = some (.tup [.str "list", .int (k : Nat)])
  | .rcd ns ks => ∃ n k, H a = some (.tup [.str "record", .ref n, .ref k]) ∧ H n = some (.tup (txV ns)) ∧ H k = some (.tup (inV2 ks))
  | .sort m n => H a = some (.tup [.str "sort", .str (bS m), .str (bS n)])
theorem rowT_iff {H : Hp} {a : Addr} {r : Rw} : RowT H a r ↔ HV H r.key (.ref a) := by
  cases r with
  | word b =>
    constructor
    · exact fun h => ⟨a, _, rfl, h, _, _, rfl, rfl, rfl⟩
    · rintro ⟨_, _, e, h, _, _, e2, e3, e4⟩
      cases e
      rw [e2, show _ = V.str (bS b) from e3, show _ = [] from e4] at h
      exact h
  | list k =>
    constructor
    · exact fun h => ⟨a, _, rfl, h, _, _, rfl, rfl, _, _, rfl, rfl, rfl⟩
    · rintro ⟨_, _, e, h, _, _, e2, e3, _, _, e4, e5, e6⟩
      cases e
      rw [e2, e4, show _ = V.str "list" from e3, show _ = V.int (k : Nat) from e5, show _ = [] from e6] at h
      exact h
  | rcd ns ks =>
    constructor
    · rintro ⟨n, k, h1, h2, h3⟩
      exact ⟨a, _, rfl, h1, _, _, rfl, rfl, _, _, rfl, ⟨n, _, rfl, h2, texts_hvs ns⟩, _, _, rfl, ⟨k, _, rfl, h3, nums_hvs ks⟩, rfl⟩
    · rintro ⟨_, _, e, h, _, _, e2, e3, _, _, e4, ⟨n, xs, e5, h5, t5⟩, _, _, e6, ⟨k, ys, e7, h7, t7⟩, e8⟩
      cases e
      rw [e2, e4, e6, show _ = V.str "record" from e3, e5, e7, show _ = [] from e8] at h
      rw [hvs_texts t5] at h5
      rw [hvs_nums t7] at h7
      exact ⟨n, k, h, h5, h7⟩
  | sort m n =>
    constructor
    · exact fun h => ⟨a, _, rfl, h, _, _, rfl, rfl, _, _, rfl, rfl, _, _, rfl, rfl, rfl⟩
    · rintro ⟨_, _, e, h, _, _, e2, e3, _, _, e4, e5, _, _, e6, e7, e8⟩
      cases e
      rw [e2, e4, e6, show _ = V.str "sort" from e3, show _ = V.str (bS m) from e5, show _ = V.str (bS n) from e7, show _ = [] from e8] at h
      exact h
/-- the first item -/
def rhd : Rw → Str
  | .word b => bS b
  | .list _ => "list"
  | .rcd _ _ => "record"
  | .sort _ _ => "sort"
theorem RowT.head {H : Hp} {a : Addr} {r : Rw} (h : RowT H a r) : ∃ xs, H a = some (.tup (.str (rhd r) :: xs)) := by
  cases r with
  | word b => exact ⟨_, h⟩
  | list k => exact ⟨_, h⟩
  | rcd ns ks => obtain ⟨n, k, h, _⟩ := h; exact ⟨_, h⟩
  | sort m n => exact ⟨_, h⟩
theorem word_ne {b : Sw.Bytes} (h : RwOk (.word b)) : bS b ≠ "list" ∧ bS b ≠ "record" ∧ bS b ≠ "sort" := by
  obtain ⟨k, hk⟩ := h
  have hm : b ∈ wlK.map (·.1) := List.mem_map.mpr ⟨_, hk, rfl⟩
  clear hk
  unfold wlK bNothing at hm
  simp only [List.map_cons, List.map_nil, List.mem_cons, List.not_mem_nil, or_false] at hm
  rcases hm with rfl | rfl | rfl | rfl | rfl | rfl | rfl <;> decide +kernel
theorem sl_ne : ("sort" : Str) ≠ "list" := by decide
theorem sr_ne : ("sort" : Str) ≠ "record" := by decide
theorem rl_ne : ("record" : Str) ≠ "list" := by decide
/-- pairs of numbers, as tuples -/
def PairsAt (H : Hp) (ps : List (Nat × Nat)) (as : List Addr) : Prop := Paired (fun (p : Nat × Nat) a => H a = some (.tup [.int (p.1 : Nat), .int (p.2 : Nat)])) ps as
theorem PairsAt.on {H H' : Hp} {ps : List (Nat × Nat)} {as : List Addr} (h : PairsAt H ps as) (e : ∀ b ys, H b = some (.tup ys) → H' b = some (.tup ys)) : PairsAt H' ps as := Paired.mapP h fun _ _ z => e _ _ z
theorem paired_of {α β : Type} {R : α → β → Prop} : ∀ {xs : List α} {ys : List β}, xs.length = ys.length → (∀ (j : Nat) x y, xs[j]? = some x → ys[j]? = some y → R x y) → Paired R xs ys
  | [], [], _, _ => .nil
  | [], _ :: _, h, _ => by cases h
  | _ :: _, [], h, _ => by cases h
  | x :: xs, y :: ys, h, f => .cons (f 0 x y rfl rfl) (paired_of (by simpa using h) fun j a b h1 h2 => f (j + 1) a b (by simpa using h1) (by simpa using h2))
theorem prs_pairs {H : Hp} {ks ls : List Nat} {as : List Addr} (h : PrsV H (inV2 ks) (inV2 ls) as) : PairsAt H (ks.zip ls) as := by
  refine paired_of (by rw [List.length_zip, h.1]; unfold inV2; rw [List.length_map, List.length_map]) fun j p a hp ha => ?_
  obtain ⟨x, y, h1, h2, h3⟩ := h.2 j a ha
  obtain ⟨p1, p2⟩ := p
  obtain ⟨q1, q2⟩ := List.getElem?_zip_eq_some.mp hp
  unfold inV2 at h1 h2
  rw [List.getElem?_map, q1] at h1
  rw [List.getElem?_map, q2] at h2
  cases h1
  cases h2
  exact h3
/-! ## tuples of texts compared -/
theorem eqv_texts : ∀ ns ms : List Sw.Bytes, PyData.eqvAll (ns.map fun n => .str (bS n)) (ms.map fun n => .str (bS n)) = decide (ns = ms)
  | [], [] => rfl
  | [], _ :: _ => rfl
  | _ :: _, [] => rfl
  | a :: ns, b :: ms => by
    rw [List.map_cons, List.map_cons, PyData.eqvAll, eqv_texts ns ms]
    have e : PyData.eqv (.str (bS a)) (.str (bS b)) = decide (a = b) := by
      rw [PyData.eqv]
      by_cases h : a = b
      · subst h; simp
      · rw [decide_eq_false h]
        simp only [decide_eq_false_iff_not, beq_eq_false_iff_ne, ne_eq]
        exact fun z => h (bS_inj z)
    rw [e]
    by_cases h1 : a = b
    · by_cases h2 : ns = ms
      · simp [h1, h2]
      · simp [h1, h2]
    · simp [h1]
theorem dp_texts {K : PySem.W.Frag} {H : Hp} : ∀ ns : List Sw.Bytes, DpAll K H (txV ns) (ns.map fun n => .str (bS n))
  | [] => .nil
  | n :: ns => .cons (.str _) (dp_texts ns)
theorem lay_texts : ∀ ns : List Sw.Bytes, PyData.canLayAll0 (ns.map fun n => .str (bS n)) = true
  | [] => rfl
  | n :: ns => by
    rw [List.map_cons, PyData.canLayAll0, lay_texts ns, Bool.and_true]
    show PyData.strOk (bS n) = true
    unfold PyData.strOk
    rw [← Array.all_toList, List.all_eq_true]
    intro c hc
    obtain ⟨x, _, rfl⟩ := List.mem_map.mp (show c ∈ n.map UInt8.toNat by simpa [bS] using hc)
    have := x.toNat_lt
    exact decide_eq_true (by omega)
theorem deep_texts : ∀ ns : List Sw.Bytes, PyData.depthAll (ns.map fun n => .str (bS n)) = 0
  | [] => rfl
  | n :: ns => by
    rw [List.map_cons, PyData.depthAll, deep_texts ns]
    rfl
theorem shaped_texts (ns : List Sw.Bytes) : SeqAt.shaped (.tuple (ns.map fun n => .str (bS n))) = true := by
  unfold SeqAt.shaped
  rw [show PyData.canLay0 (.tuple (ns.map fun n => .str (bS n))) = PyData.canLayAll0 (ns.map fun n => .str (bS n)) by rw [PyData.canLay0], lay_texts, Bool.true_and]
  have : PyData.depth (.tuple (ns.map fun n => .str (bS n))) = 1 := by rw [PyData.depth, deep_texts]
  rw [this]
  rfl
section
variable {P : Program} {w : World} {K : PySem.W.Frag} {mg : Str → Option Value} {base : Heap} {CB fB CV CC CK aKW aPK : Addr}
/-! ## below -/
/-- a pair of numbers -/
def PrT (H : Hp) (a : Addr) (i j : Nat) : Prop := H a = some (.tup [.int (i : Nat), .int (j : Nat)])
def spBelow (P : Program) (w : World) (CK : Addr) : Sp := fun vs H Q _ => ∃ (ka pr : Addr) (i : KI) (T : List Rw) (A : Agd) (m n : Nat), vs = [.ref ka, .ref pr] ∧ KAt P w CK H ka i T A ∧ PrT H pr m n ∧ Tab T ∧ m < T.length ∧ n < T.length ∧
  ∀ (H' : Hp) (l : Addr) (as : List Addr), Same H H' → H l = none → H' l = some (.lst (as.map V.ref)) → PairsAt H' (below T m n) as → Q (.ref l) H'
theorem scBelow : FnScope ["self", "pair", "one", "two"] ["self", "pair"] (defScope sBelow) := ⟨rfl, rfl, rfl, by decide +kernel, rfl, by decide +kernel, by decide +kernel⟩
theorem ok_below {f : Addr} {fd : FuncData} (T : Txt K mg CB fB CV CC CK aKW aPK) (F : Fun K "below" "Kinds.below" sBelow f fd) : FnOk P w K mg base CX0 1 f fd ["self", "pair"] (spBelow P w CK) := by
  refine F.ok scBelow (fun vs H Q E h => ?_) (fun cdv A outer s H vs Q E hr h => ⟨_,
    pss_cons (ps_set (i := 2) scBelow.nd rfl (Or.inl rfl) (pe_ix ix_list (pe_fld (pv 0) rfl) (pe_ix ix_tup (pv 1) pe_int (fun _ _ => rfl)) (fun _ _ => rfl)))
    (pss_cons (ps_set (i := 3) scBelow.nd rfl (Or.inl rfl) (pe_ix ix_list (pe_fld (pv 0) rfl) (pe_ix ix_tup (pv 1) pe_int (fun _ _ => rfl)) (fun _ _ => rfl)))
    (pss_cons (ps_if (PW.pt (pw_or (pt_cmpR op_eq (pe_ix ix_tup (pv 1) pe_int (fun _ _ => rfl)) (pe_ix ix_tup (pv 1) pe_int (fun _ _ => rfl)) (nomark _)) (pw_or1 (pt_cmpR op_ne (pe_ix ix_tup (pv 2) pe_int (fun _ _ => rfl)) (pe_ix ix_tup (pv 3) pe_int (fun _ _ => rfl)) (nomark _)))))
      (pss_one (ps_ret (pe_lst pa_nil))) pss_nil)
    (pss_cons (ps_if (pt_cmpR op_eq (pe_ix ix_tup (pv 2) pe_int (fun _ _ => rfl)) pe_str (nomark _)) (pss_one (ps_ret (pe_lst (pa_cons (pe_tup (pa_cons (pe_ix ix_tup (pv 2) pe_int (fun _ _ => rfl)) (pa_cons (pe_ix ix_tup (pv 3) pe_int (fun _ _ => rfl)) pa_nil))) pa_nil)))) pss_nil)
    (pss_cons (ps_if (PW.pt (pw_and (pt_cmpR op_eq (pe_ix ix_tup (pv 2) pe_int (fun _ _ => rfl)) pe_str (nomark _)) (pw_and1 (pt_cmpR (op_eqD hr.units) (pe_ix ix_tup (pv 2) pe_int (fun _ _ => rfl)) (pe_ix ix_tup (pv 3) pe_int (fun _ _ => rfl)) (nomark _)))))
      (pss_one (ps_ret (pe_listZip rfl rfl T.list rfl T.zip (pa_cons (pe_ix ix_tup (pv 2) pe_int (fun _ _ => rfl)) (pa_cons (pe_ix ix_tup (pv 3) pe_int (fun _ _ => rfl)) pa_nil))))) pss_nil)
    (pss_one (ps_ret (pe_lst pa_nil))))))), ?_⟩)
  · obtain ⟨ka, pr, i, tb, A, m, n, rfl, _⟩ := h
    rfl
  · obtain ⟨ka, pr, i, tb, A, m, n, rfl, kat, hpr, tab, hm, hn, k⟩ := h
    obtain ⟨dx, ek⟩ := id kat.obj
    obtain ⟨as, er, prd⟩ := id kat.rows
    obtain ⟨a1, ha1, hr1⟩ := paired_get prd (List.getElem?_eq_getElem hm)
    obtain ⟨a2, ha2, hr2⟩ := paired_get prd (List.getElem?_eq_getElem hn)
    generalize e1 : tb[m] = r1 at hr1
    generalize e2 : tb[n] = r2 at hr2
    have g1 : tb[m]? = some r1 := by rw [List.getElem?_eq_getElem hm, e1]
    have g2 : tb[n]? = some r2 := by rw [List.getElem?_eq_getElem hn, e2]
    have t1 := rowT_iff.mpr hr1
    have t2 := rowT_iff.mpr hr2
    obtain ⟨xs1, h1⟩ := t1.head
    obtain ⟨xs2, h2⟩ := t2.head
    have ok1 := tab.rows _ (List.mem_of_getElem? g1)
    have ok2 := tab.rows _ (List.mem_of_getElem? g2)
    have la1 : (as.map V.ref)[m]? = some (.ref a1) := by rw [List.getElem?_map, ha1]; rfl
    have la2 : (as.map V.ref)[n]? = some (.ref a2) := by rw [List.getElem?_map, ha2]; rfl
    have empty : below tb m n = [] → ∀ p, H p = none → Q (.ref p) (upd H p (.lst [])) := fun e p hp => k _ p [] (Same.new hp) hp upd_same (by rw [e]; exact .nil)
    refine ⟨_, rfl, ka, CK, dx, _, _, rfl, ek, T.clK, T.kRows, kF_rows i, _, rfl, pr, _, _, _, rfl, rfl, SqT.of hpr, at_of (j := 0) rfl rfl, i.rl, _, _, _, rfl, rfl, SqL.of er, at_of (j := m) rfl la1, ?_⟩
    refine ⟨_, rfl, ka, CK, dx, _, _, rfl, ek, T.clK, T.kRows, kF_rows i, _, rfl, pr, _, _, _, rfl, rfl, SqT.of hpr, at_of (j := 1) rfl rfl, i.rl, _, _, _, rfl, rfl, SqL.of er, at_of (j := n) rfl la2, ?_⟩
    refine ⟨_, rfl, pr, _, _, _, rfl, rfl, SqT.of hpr, at_of (j := 0) rfl rfl, _, rfl, pr, _, _, _, rfl, rfl, SqT.of hpr, at_of (j := 1) rfl rfl, rfl, _, rfl, ?_⟩
    refine idc (fun c1 => ?_) (fun c1 => ?_)
    · have hmn : m = n := by have := V.int.inj c1; omega
      exact iteT ⟨by decide, fun p hp => empty (if_pos hmn) p hp⟩
    have hmn : m ≠ n := fun z => c1 (by rw [z])
    have bel : below tb m n = match tb[m]?, tb[n]? with
      | some (.list a), some (.list b) => [(a, b)]
      | some (.rcd ns ks), some (.rcd ms ls) => if ns = ms then ks.zip ls else []
      | _, _ => [] := if_neg hmn
    rw [g1, g2] at bel
    refine ⟨_, rfl, a1, _, _, _, rfl, rfl, SqT.of h1, at_of (j := 0) rfl rfl, _, rfl, a2, _, _, _, rfl, rfl, SqT.of h2, at_of (j := 0) rfl rfl, rfl, _, rfl, ?_⟩
    by_cases c2 : rhd r1 = rhd r2
    · refine itf (by rw [c2]; simp) ?_
      refine ⟨_, rfl, a1, _, _, _, rfl, rfl, SqT.of h1, at_of (j := 0) rfl rfl, rfl, _, rfl, ?_⟩
      cases r1 with
      | word b =>
        have w1 := word_ne ok1
        refine itf (decide_eq_false fun z => w1.1 (V.str.inj z)) ⟨_, rfl, a1, _, _, _, rfl, rfl, SqT.of h1, at_of (j := 0) rfl rfl, rfl, _, rfl, ?_⟩
        refine itf (decide_eq_false fun z => w1.2.1 (V.str.inj z)) (itf rfl ⟨by decide, fun p hp => empty (by rw [bel]) p hp⟩)
      | sort u v =>
        refine itf (decide_eq_false fun z => sl_ne (V.str.inj z)) ⟨_, rfl, a1, _, _, _, rfl, rfl, SqT.of h1, at_of (j := 0) rfl rfl, rfl, _, rfl, ?_⟩
        refine itf (decide_eq_false fun z => sr_ne (V.str.inj z)) (itf rfl ⟨by decide, fun p hp => empty (by rw [bel]) p hp⟩)
      | list u =>
        cases r2 with
        | word b => exact absurd c2.symm (word_ne ok2).1
        | sort _ _ => exact absurd c2.symm sl_ne
        | rcd _ _ => exact absurd c2.symm rl_ne
        | list v =>
          refine itt (decide_eq_true rfl) ⟨_, rfl, a1, _, _, _, rfl, rfl, SqT.of t1, at_of (j := 1) rfl rfl, _, rfl, a2, _, _, _, rfl, rfl, SqT.of t2, at_of (j := 1) rfl rfl, (by show 2 ≤ sizeLine; decide), fun t ht => ⟨(by show 1 ≤ sizeLine; decide), fun p hp => ?_⟩⟩
          refine k _ p [t] ((Same.new ht).trans (Same.new hp)) ?_ upd_same (by rw [bel]; exact .cons ((upd_ne (ne_of_none upd_same hp)).trans upd_same) .nil)
          cases q : H p with
          | none => rfl
          | some o => rw [upd_ne (fun z => by rw [← z, q] at ht; cases ht), q] at hp; cases hp
      | rcd ns ks =>
        cases r2 with
        | word b => exact absurd c2.symm (word_ne ok2).2.1
        | sort _ _ => exact absurd c2.symm sr_ne
        | list _ => exact absurd c2 rl_ne
        | rcd ms ls =>
          obtain ⟨n1, k1, q1, q2, q3⟩ := id t1
          obtain ⟨n2, k2, p1, p2, p3⟩ := id t2
          refine itf (decide_eq_false fun z => rl_ne (V.str.inj z)) ⟨_, rfl, a1, _, _, _, rfl, rfl, SqT.of h1, at_of (j := 0) rfl rfl, rfl, _, rfl, ?_⟩
          refine itt (decide_eq_true rfl) ⟨_, rfl, a1, _, _, _, rfl, rfl, SqT.of q1, at_of (j := 1) rfl rfl, _, rfl, a2, _, _, _, rfl, rfl, SqT.of p1, at_of (j := 1) rfl rfl, _, _, .tup (SqT.of q2) (dp_texts ns), .tup (SqT.of p2) (dp_texts ms), shaped_texts ns, shaped_texts ms, _, rfl, ?_⟩
          have ev : PyData.eqv (.tuple (ns.map fun n => .str (bS n))) (.tuple (ms.map fun n => .str (bS n))) = decide (ns = ms) := by rw [PyData.eqv, eqv_texts]
          rw [ev]
          by_cases hnm : ns = ms
          · refine itt (decide_eq_true hnm) ⟨_, rfl, a1, _, _, _, rfl, rfl, SqT.of q1, at_of (j := 2) rfl rfl, _, rfl, a2, _, _, _, rfl, rfl, SqT.of p1, at_of (j := 2) rfl rfl, k1, k2, _, _, rfl, SqT.of q3, SqT.of p3, fun l bs H2 hl sm el pv => ?_⟩
            refine k H2 l bs sm hl el ?_
            rw [bel]
            show PairsAt H2 (if ns = ms then ks.zip ls else []) bs
            rw [if_pos hnm]
            exact prs_pairs pv
          · refine itf (decide_eq_false hnm) ⟨by decide, fun p hp => empty ?_ p hp⟩
            rw [bel]
            exact if_neg hnm
    · refine itt (by simp only [Bool.not_eq_true', decide_eq_false_iff_not]; exact fun z => c2 (V.str.inj z)) ⟨by decide, fun p hp => empty ?_ p hp⟩
      rw [bel]
      cases r1 with
      | word b => rfl
      | sort u v => rfl
      | list u =>
        cases r2 with
        | list v => exact absurd rfl c2
        | _ => rfl
      | rcd u v =>
        cases r2 with
        | rcd u v => exact absurd rfl c2
        | _ => rfl
end
end Ag

set_option maxRecDepth 100000
set_option maxHeartbeats 2000000
namespace Ag
open PySem PySem.Spec PyProof.Rows L2
theorem cV_none : ∀ ps : List (Option Nat), inV (.int (-1)) (ps.map cV) = decide (none ∈ ps)
  | [] => rfl
  | c :: ps => by
    have ih := cV_none ps
    unfold inV at ih ⊢
    rw [List.map_cons, List.any_cons, ih]
    cases c with
    | none => simp [cV, eqV]
    | some n =>
      have : eqV (cV (some n)) (.int (-1)) = false := by
        show decide (((n : Nat) : Int) = -1) = false
        exact decide_eq_false (by omega)
      rw [this]
      simp
theorem cV_vals : ∀ ps : List (Option Nat), none ∉ ps → ps.map cV = inV2 (ps.map fun p => p.getD 0)
  | [], _ => rfl
  | c :: ps, h => by
    rw [List.mem_cons, not_or] at h
    cases c with
    | none => exact absurd rfl h.1
    | some n =>
      rw [List.map_cons, cV_vals ps h.2]
      rfl
theorem cV_flat (ps : List (Option Nat)) : (ps.map cV).all flatV = true := by
  rw [List.all_eq_true]
  intro x hx
  obtain ⟨c, _, rfl⟩ := List.mem_map.mp hx
  cases c <;> rfl
section
variable {P : Program} {w : World} {K : PySem.W.Frag} {mg : Str → Option Value} {base : Heap} {CB fB CV CC CK aKW aPK : Addr}
/-! ## joined -/
def spJoined (P : Program) (w : World) (CK : Addr) : Sp := fun vs H Q _ => ∃ (ka pr : Addr) (i : KI) (T : List Rw) (A : Agd) (m n : Nat), vs = [.ref ka, .ref pr] ∧ KAt P w CK H ka i T A ∧ PrT H pr m n ∧ Tab T ∧ m < T.length ∧ n < T.length ∧ T.length ≤ 900000 ∧
  (below T m n).length ≤ 100000 ∧ (∀ p ∈ below T m n, (ask A p).isSome = true) ∧ ∀ H', KAt P w CK H' ka i (joined T A m n).2 A → Kp [i.rl, i.nd] H H' → Q (cV (joined T A m n).1) H'
theorem scJoined : FnScope ["self", "pair", "parts", "row", "two"] ["self", "pair"] (defScope sJoined) := ⟨rfl, rfl, rfl, by decide +kernel, rfl, by decide +kernel, by decide +kernel⟩
theorem ok_joined {f fP fL : Addr} {fd fdP fdB : FuncData} {psP psB : List Str} (T : Txt K mg CB fB CV CC CK aKW aPK) (F : Fun K "joined" "Kinds.joined" sJoined f fd) (GP : Gm P w K mg base CK CX0 1 "put" fP fdP psP (spPut P w CK)) (GB : Gm P w K mg base CK CX0 1 "below" fL fdB psB (spBelow P w CK)) :
    FnOk P w K mg base CX0 2 f fd ["self", "pair"] (spJoined P w CK) := by
  refine F.ok scJoined (fun vs H Q E h => ?_) (fun cdv A outer s H vs Q E hr h => ⟨_,
    pss_cons (ps_if (PW.pt (pw_or (pt_cmpR op_eq (pe_ix ix_tup (pv 1) pe_int (fun _ _ => rfl)) (pe_ix ix_tup (pv 1) pe_int (fun _ _ => rfl)) (nomark _)) (pw_or1 (pt_cmpR op_eq (pe_ix ix_tup (pv 1) pe_int (fun _ _ => rfl)) (pe_gi T.nothing) (nomark _)))))
      (pss_one (ps_ret (pe_ix ix_tup (pv 1) pe_int (fun _ _ => rfl)))) pss_nil)
    (pss_cons (ps_if (pt_cmpR op_eq (pe_ix ix_tup (pv 1) pe_int (fun _ _ => rfl)) (pe_gi T.nothing) (nomark _)) (pss_one (ps_ret (pe_ix ix_tup (pv 1) pe_int (fun _ _ => rfl)))) pss_nil)
    (pss_cons (ps_setLc (i := 2) (own := [("two", 4)]) (g := gName 4) (tt := tYes) (te := tDGet (tFld K (tVar 0) "agreed") (tVar 4)) rfl scJoined.nd rfl rfl (sw_true rfl rfl rfl (by decide +kernel)) (pi_list (pe_meth (pv 0) T.clK GB.M GB.F hr GB.b .nil pass0 (pa_cons (pv 1) pa_nil))) (blkOk_by (own := [("two", 4)]) (N := ["self", "pair", "parts", "row", "two"]) (sc := defScope sJoined) (by decide +kernel))
        (fun _ _ _ _ _ => pg_name (i := 4) scJoined.nd rfl (Or.inl rfl)) (fun _ _ _ _ _ => pts_nil) (fun _ _ _ _ _ => by exact pe_dget (hu_of hr) (pe_fld (pv 0) rfl) (pv 4) (fun _ _ => rfl)))
    (pss_cons (ps_if (PW.pt (pw_or (pt_cmpR op_eq (pe_callB call_len (by rfl) T.len PySem.boot_len (pa_cons (pv 2) pa_nil)) pe_int (nomark _)) (pw_or1 (pt_cmpR op_in_seq (pe_gi T.none) (pv 2) rfl)))) (pss_one (ps_ret (pe_gi T.none))) pss_nil)
    (pss_cons (ps_set (i := 3) scJoined.nd rfl (Or.inl rfl) (pe_ix ix_list (pe_fld (pv 0) rfl) (pe_ix ix_tup (pv 1) pe_int (fun _ _ => rfl)) (fun _ _ => rfl)))
    (pss_cons (ps_if (pt_cmpR op_eq (pe_ix ix_tup (pv 3) pe_int (fun _ _ => rfl)) pe_str (nomark _))
      (pss_one (ps_ret (pe_meth (pv 0) T.clK GP.M GP.F hr GP.b .nil pass0 (pa_cons (pe_tup (pa_cons pe_str (pa_cons (pe_ix ix_list (pv 2) pe_int (fun _ _ => rfl)) pa_nil))) pa_nil)))) pss_nil)
    (pss_one (ps_ret (pe_meth (pv 0) T.clK GP.M GP.F hr GP.b .nil pass0 (pa_cons (pe_tup (pa_cons pe_str (pa_cons (pe_ix ix_tup (pv 3) pe_int (fun _ _ => rfl)) (pa_cons (pe_tupleOf rfl T.tuple (pv 2)) pa_nil)))) pa_nil))))))))), ?_⟩)
  · obtain ⟨ka, pr, i, tb, A, m, n, rfl, _⟩ := h
    rfl
  · obtain ⟨ka, pr, i, tb, A, m, n, rfl, kat, hpr, tab, hm, hn, htl, hbl, hall, k⟩ := h
    refine ⟨_, rfl, pr, _, _, _, rfl, rfl, SqT.of hpr, at_of (j := 0) rfl rfl, _, rfl, pr, _, _, _, rfl, rfl, SqT.of hpr, at_of (j := 1) rfl rfl, rfl, _, rfl, ?_⟩
    have j0 : joined tb A m n = if m = n ∨ n = 6 then (some m, tb) else if m = 6 then (some n, tb) else match joinRow tb A m n with
      | none => (none, tb)
      | some r => (some (putN tb r), putT tb r) := rfl
    have first : ∀ (hc : m = n ∨ n = 6), Q (.int (m : Nat)) H := fun hc => by
      rw [j0, if_pos hc] at k
      exact k H kat (Kp.refl _ _)
    refine idc (fun c1 => ?_) (fun c1 => ?_)
    · exact iteT ⟨_, rfl, pr, _, _, _, rfl, rfl, SqT.of hpr, at_of (j := 0) rfl rfl, first (.inl (by have := V.int.inj c1; omega))⟩
    have hmn : m ≠ n := fun z => c1 (by rw [z])
    refine ⟨_, rfl, pr, _, _, _, rfl, rfl, SqT.of hpr, at_of (j := 1) rfl rfl, rfl, _, rfl, ?_⟩
    refine idc (fun c2 => ?_) (fun c2 => ?_)
    · exact ⟨_, rfl, pr, _, _, _, rfl, rfl, SqT.of hpr, at_of (j := 0) rfl rfl, first (.inr (by have := V.int.inj c2; omega))⟩
    have hn6 : n ≠ 6 := fun z => c2 (by rw [z]; rfl)
    rw [if_neg (by omega)] at j0
    refine ⟨_, rfl, pr, _, _, _, rfl, rfl, SqT.of hpr, at_of (j := 0) rfl rfl, rfl, _, rfl, ?_⟩
    refine idc (fun c3 => ?_) (fun c3 => ?_)
    · have hm6 : m = 6 := by have := V.int.inj c3; omega
      rw [j0, if_pos hm6] at k
      exact ⟨_, rfl, pr, _, _, _, rfl, rfl, SqT.of hpr, at_of (j := 1) rfl rfl, k H kat (Kp.refl _ _)⟩
    have hm6 : m ≠ 6 := fun z => c3 (by rw [z]; rfl)
    rw [if_neg hm6] at j0
    obtain ⟨dx, ek⟩ := id kat.obj
    refine ⟨_, rfl, ka, dx, _, rfl, ek, by rfl, _, rfl, ka, pr, i, tb, A, m, n, rfl, kat, hpr, tab, hm, hn, fun H1 l as s1 hl el pa => ?_⟩
    have kat1 := kat.on s1
    obtain ⟨dx1, ek1⟩ := id kat1.obj
    have hpr1 : PrT H1 pr m n := s1 _ _ hpr
    have plen : as.length = (below tb m n).length := (Paired.length pa).symm
    refine ⟨l, rfl, ⟨_, SqL.of el⟩, fun D hD => ?_⟩
    refine lc_it (walk_list (K := K) (a := l) (xs := as.map V.ref)) (fun j H' => Same H1 H' ∧ H' D = some (.lst (((parts A (below tb m n)).take j).map cV))) ⟨Same.new hD, upd_same⟩ (fun j H' _ h => SqL.of (h.1 _ _ el)) ?_ ?_
    · rintro j x H2 H3 hj ⟨s2, h2⟩ ⟨rfl, hx⟩
      rw [List.getElem?_map] at hx
      obtain ⟨a, ha, rfl⟩ := Option.map_eq_some_iff.mp hx
      have hjl : j < (below tb m n).length := by rw [← plen]; exact (List.getElem?_eq_some_iff.mp ha).1
      obtain ⟨a', ha', hpt⟩ := paired_get pa (List.getElem?_eq_getElem hjl)
      rw [ha] at ha'
      cases ha'
      obtain ⟨c, hc⟩ := Option.isSome_iff_exists.mp (hall _ (List.getElem_mem hjl))
      have kat2 := kat1.on s2
      obtain ⟨dx2, ek2⟩ := id kat2.obj
      have hval : valV (agV A) (pk (below tb m n)[j]) = some (cV c) := by rw [agV_val, hc]; rfl
      have hpart : (parts A (below tb m n))[j]? = some c := by
        unfold parts
        rw [List.getElem?_map, List.getElem?_eq_getElem hjl]
        show some ((ask A _).getD none) = _
        rw [hc]
        rfl
      refine ⟨rfl, ⟨_, rfl, ka, CK, dx2, _, _, rfl, ek2, T.clK, T.kAgreed, kF_agreed i, _, rfl, i.ad, cV c, rfl, ?_, _, h2, ?_, fun b o e => ?_, ?_⟩⟩
      · rw [← hval]
        exact DGet.t kat2.agr (s2 _ _ hpt)
      · rw [List.length_map, List.length_take, sz_eq]
        unfold parts
        rw [List.length_map]
        omega
      · rw [upd_ne (ne_of_none e hD)]
        exact s2 b o e
      · rw [upd_same, take_more hpart, List.map_append]
        rfl
    · rintro H2 ⟨s2, h2⟩
      have hlen : (as.map V.ref).length = (parts A (below tb m n)).length := by unfold parts; rw [List.length_map, List.length_map, plen]
      rw [hlen, List.take_length] at h2
      have kat2 := kat1.on s2
      obtain ⟨dx2, ek2⟩ := id kat2.obj
      have hpr2 : PrT H2 pr m n := s2 _ _ hpr1
      have s12 : Same H H2 := s1.trans s2
      refine ⟨_, rfl, _, _, rfl, .inl ⟨_, SqL.of h2, rfl⟩, rfl, _, rfl, ?_⟩
      rw [List.length_map]
      generalize hps : parts A (below tb m n) = ps at h2
      have jr : joinRow tb A m n = if ps = [] ∨ none ∈ ps then none else match tb[m]? with
        | some (.list _) => some (.list ((ps.headD none).getD 0))
        | some (.rcd ns _) => some (.rcd ns (ps.map fun p => p.getD 0))
        | _ => none := by rw [← hps]; rfl
      have no : joinRow tb A m n = none → Q (.int (-1)) H2 := fun e => by
        rw [j0, e] at k
        exact k H2 kat2 (Kp.of s12)
      refine idc (fun c4 => ?_) (fun c4 => ?_)
      · refine iteT (no ?_)
        rw [jr]
        exact if_pos (.inl (List.length_eq_zero_iff.mp (by have := V.int.inj c4; omega)))
      have hne : ps ≠ [] := fun z => c4 (by rw [z]; rfl)
      refine ⟨_, rfl, D, _, rfl, .inl (SqL.of h2), rfl, cV_flat ps, _, rfl, ?_⟩
      show if inV (.int (-1)) (ps.map cV) = true then _ else _
      rw [cV_none]
      refine idc (fun c5 => ?_) (fun c5 => ?_)
      · refine no ?_
        rw [jr]
        exact if_pos (.inr c5)
      rw [if_neg (fun z => z.elim hne c5)] at jr
      obtain ⟨as2, er2, prd2⟩ := id kat2.rows
      obtain ⟨a1, ha1, hr1⟩ := paired_get prd2 (List.getElem?_eq_getElem hm)
      generalize e1 : tb[m] = r1 at hr1
      have g1 : tb[m]? = some r1 := by rw [List.getElem?_eq_getElem hm, e1]
      rw [g1] at jr
      have t1 := rowT_iff.mpr hr1
      obtain ⟨xs1, h1⟩ := t1.head
      have la1 : (as2.map V.ref)[m]? = some (.ref a1) := by rw [List.getElem?_map, ha1]; rfl
      refine ⟨_, rfl, ka, CK, dx2, _, _, rfl, ek2, T.clK, T.kRows, kF_rows i, _, rfl, pr, _, _, _, rfl, rfl, SqT.of hpr2, at_of (j := 0) rfl rfl, i.rl, _, _, _, rfl, rfl, SqL.of er2, at_of (j := m) rfl la1, ?_⟩
      refine ⟨_, rfl, a1, _, _, _, rfl, rfl, SqT.of h1, at_of (j := 0) rfl rfl, rfl, _, rfl, ?_⟩
      -- what put leaves
      have fin : ∀ (r : Rw) (H3 : Hp) (t : Addr), joinRow tb A m n = some r → Same H2 H3 → HV H3 r.key (.ref t) → ∃ (ka' row : Addr) (i' : KI) (T' : List Rw) (A' : Agd) (r' : Rw), [V.ref ka, V.ref t] = [.ref ka', .ref row] ∧ KAt P w CK H3 ka' i' T' A' ∧ HV H3 r'.key (.ref row) ∧ T'.length ≤ 1000000 ∧
          ∀ H', KAt P w CK H' ka' i' (putT T' r') A' → Kp [i'.rl, i'.nd] H3 H' → Q (.int (putN T' r' : Nat)) H' := fun r H3 t e s3 hv => ⟨ka, t, i, tb, A, r, rfl, kat2.on s3, hv, by omega, fun H' kat' kp => by
        rw [j0, e] at k
        exact k H' kat' ((Kp.of (s12.trans s3)).trans kp)⟩
      have dead : ∀ r, below tb m n = [] → tb[m]? = some r → False := fun r e _ => hne (by rw [← hps, e]; rfl)
      have bel : below tb m n = match tb[m]?, tb[n]? with
        | some (.list a), some (.list b) => [(a, b)]
        | some (.rcd ns ks), some (.rcd ms ls) => if ns = ms then ks.zip ls else []
        | _, _ => [] := if_neg hmn
      rw [g1] at bel
      cases r1 with
      | word b => exact (dead _ (by rw [bel]) g1).elim
      | sort u v => exact (dead _ (by rw [bel]) g1).elim
      | list u =>
        have hc0 : ∃ n0 rest, ps = some n0 :: rest := by
          cases ps with
          | nil => exact absurd rfl hne
          | cons c rest =>
            cases c with
            | none => exact absurd List.mem_cons_self c5
            | some n0 => exact ⟨n0, rest, rfl⟩
        obtain ⟨n0, rest, ep⟩ := hc0
        have jr2 : joinRow tb A m n = some (.list n0) := by rw [jr, ep]; rfl
        have h2' := h2
        rw [ep] at h2'
        refine itt (decide_eq_true rfl) ⟨_, rfl, ka, dx2, _, rfl, ek2, by rfl, _, rfl, D, _, _, _, rfl, rfl, SqL.of h2', at_of (j := 0) rfl rfl, (by show 2 ≤ sizeLine; decide), fun t ht => ?_⟩
        exact fin (.list n0) _ t jr2 (Same.new ht) (rowT_iff.mp upd_same)
      | rcd ns ks =>
        obtain ⟨nn, kk, q1, q2, q3⟩ := id t1
        have jr2 : joinRow tb A m n = some (.rcd ns (ps.map fun p => p.getD 0)) := jr
        refine itf (decide_eq_false fun z => rl_ne (V.str.inj z)) ⟨_, rfl, ka, dx2, _, rfl, ek2, by rfl, _, rfl, a1, _, _, _, rfl, rfl, SqT.of q1, at_of (j := 1) rfl rfl, _, rfl, .inl ⟨D, _, rfl, SqL.of h2, fun t ht => ⟨(by show 3 ≤ sizeLine; decide), fun u hu => ?_⟩⟩⟩
        refine fin _ _ u jr2 ((Same.new ht).trans (Same.new hu)) (rowT_iff.mp ⟨nn, t, upd_same, ?_, ?_⟩)
        · rw [upd_ne (ne_of_none (by rw [upd_ne (ne_of_none q2 ht)]; exact q2) hu), upd_ne (ne_of_none q2 ht)]
          exact q2
        · rw [upd_ne (ne_of_none upd_same hu), upd_same, cV_vals ps c5]
end
end Ag

set_option maxRecDepth 100000
set_option maxHeartbeats 2000000
namespace Ag
open PySem PySem.Spec PyProof.Rows L2
theorem below_len {T : List Rw} (h : Tab T) (i j : Nat) : (below T i j).length ≤ 100000 := by
  unfold below
  split
  · exact Nat.zero_le _
  · split
    · exact (by decide : 1 ≤ 100000)
    · rename_i ns ks ms ls e1 e2
      have ok : RwOk (.rcd ns ks) := h.rows _ (List.mem_of_getElem? e1)
      split
      · rw [List.length_zip]
        have := ok.2.1
        have := ok.2.2
        omega
      · exact Nat.zero_le _
    · exact Nat.zero_le _
theorem den_lt {T : List Rw} {i : Nat} {x : Wk} (h : Den T i x) : i < T.length := by
  cases h with
  | word e _ => exact (List.getElem?_eq_some_iff.mp e).1
  | list e _ => exact (List.getElem?_eq_some_iff.mp e).1
  | rcd e _ => exact (List.getElem?_eq_some_iff.mp e).1
  | sort e => exact (List.getElem?_eq_some_iff.mp e).1
theorem paired_snoc_inv {α β : Type} {R : α → β → Prop} : ∀ {xs : List α} {x : α} {ys : List β}, Paired R (xs ++ [x]) ys → ∃ zs y, ys = zs ++ [y] ∧ Paired R xs zs ∧ R x y
  | [], x, _, .cons r .nil => ⟨[], _, rfl, .nil, r⟩
  | a :: xs, x, _, .cons r t => by
    obtain ⟨zs, y, rfl, h1, h2⟩ := paired_snoc_inv t
    exact ⟨_ :: zs, y, rfl, .cons r h1, h2⟩
theorem paired_append {α β : Type} {R : α → β → Prop} {xs xs' : List α} {ys ys' : List β} (a : Paired R xs ys) (b : Paired R xs' ys') : Paired R (xs ++ xs') (ys ++ ys') := by
  induction a with
  | nil => exact b
  | cons r t ih => exact .cons r ih
theorem Kp.wnew {S : List Addr} {H H1 : Hp} {t : Addr} {o : HO} (k : Kp S H H1) (h : H t = .none) : Kp S H (upd H1 t o) := fun b u e n => by
  rw [upd_ne (ne_of_none e h)]
  exact k b u e n
theorem stepC_join {T : List Rw} {A : Agd} {i j : Nat} {r : List (Nat × Nat)} (h : ask A (i, j) = none) (hw : (below T i j).filter (fun p => (ask A p).isNone) = []) : stepC ⟨T, A, (i, j) :: r⟩ = ⟨(joined T A i j).2, A ++ [((i, j), (joined T A i j).1)], (i, j) :: r⟩ := by
  show (if (ask A (i, j)).isSome = true then _ else _) = _
  rw [if_neg (by rw [h]; exact Bool.false_ne_true)]
  show (if (below T i j).filter (fun p => (ask A p).isNone) = [] then _ else _) = _
  rw [if_pos hw]
theorem stepC_wait {T : List Rw} {A : Agd} {i j : Nat} {r : List (Nat × Nat)} (h : ask A (i, j) = none) (hw : (below T i j).filter (fun p => (ask A p).isNone) ≠ []) : stepC ⟨T, A, (i, j) :: r⟩ = ⟨T, A, ((below T i j).filter fun p => (ask A p).isNone).reverse ++ (i, j) :: r⟩ := by
  show (if (ask A (i, j)).isSome = true then _ else _) = _
  rw [if_neg (by rw [h]; exact Bool.false_ne_true)]
  show (if (below T i j).filter (fun p => (ask A p).isNone) = [] then _ else _) = _
  rw [if_neg hw]
section
variable {P : Program} {w : World} {K : PySem.W.Frag} {mg : Str → Option Value} {base : Heap} {CB fB CV CC CK aKW aPK : Addr}
theorem KAt.off {H : Hp} {ka : Addr} {i : KI} {T : List Rw} {A : Agd} {ta : Addr} {xs ys : List V} (h : KAt P w CK H ka i T A) (e : H ta = some (.lst xs)) (n : ta ≠ i.rl) : KAt P w CK (upd H ta (.lst ys)) ka i T A := by
  obtain ⟨dx, h1⟩ := h.obj
  obtain ⟨as, h2, h3⟩ := h.rows
  obtain ⟨zs, h4, _⟩ := id h.num
  have tk : ∀ (b : Addr) (zs : List V), H b = some (.tup zs) → upd H ta (.lst ys) b = some (.tup zs) := fun b zs q => by
    rw [upd_ne (ne_of q e (fun z => nomatch z))]
    exact q
  exact ⟨⟨dx, (upd_ne (ne_of h1 e (fun z => nomatch z))).trans h1⟩, ⟨as, (upd_ne (Ne.symm n)).trans h2, Paired.mapP h3 fun _ _ z => HV.on tk _ _ z⟩,
    h.num.on (fun o q => by rw [h4] at q; rw [upd_ne (ne_of h4 e (fun z => nomatch z)), h4]; exact q) tk, (upd_ne (ne_of h.agr e (fun z => nomatch z))).trans h.agr⟩
theorem KAt.agree {H : Hp} {ka : Addr} {i : KI} {T : List Rw} {A : Agd} {p : Nat × Nat} {c : Option Nat} (h : KAt P w CK H ka i T A) (hp : ask A p = none) : KAt P w CK (upd H i.ad (.dT (putK (agV A) (pk p) (cV c)))) ka i T (A ++ [(p, c)]) := by
  obtain ⟨dx, h1⟩ := h.obj
  obtain ⟨as, h2, h3⟩ := h.rows
  obtain ⟨zs, h4, _⟩ := id h.num
  have tk : ∀ (b : Addr) (zs : List V), H b = some (.tup zs) → upd H i.ad (.dT (putK (agV A) (pk p) (cV c))) b = some (.tup zs) := fun b zs q => by
    rw [upd_ne (ne_of q h.agr (fun z => nomatch z))]
    exact q
  exact ⟨⟨dx, (upd_ne (ne_of h1 h.agr (fun z => nomatch z))).trans h1⟩, ⟨as, (upd_ne (ne_of h2 h.agr (fun z => nomatch z))).trans h2, Paired.mapP h3 fun _ _ z => HV.on tk _ _ z⟩,
    h.num.on (fun o q => by rw [h4] at q; rw [upd_ne (ne_of h4 h.agr (fun z => nomatch z)), h4]; exact q) tk, by rw [upd_same, agV_put hp]⟩
/-! ## common -/
def spCommon (P : Program) (w : World) (CK : Addr) : Sp := fun vs H Q _ => ∃ (ka : Addr) (I : KI) (T : List Rw) (A : Agd) (i j B m : Nat) (T' : List Rw) (A' : Agd) (c : Option Nat), vs = [.ref ka, .int (i : Nat), .int (j : Nat)] ∧ KAt P w CK H ka I T A ∧ B ≤ 800000 ∧
  Goes B m ⟨T, A, [(i, j)]⟩ ⟨T', A', []⟩ ∧ ask A' (i, j) = some c ∧ ∀ H', KAt P w CK H' ka I T' A' → Kp [I.rl, I.nd, I.ad] H H' → Q (cV c) H'
theorem scCommon : FnScope ["self", "one", "two", "todo", "pair", "waits", "under"] ["self", "one", "two"] (defScope sCommon) := ⟨rfl, rfl, rfl, by decide +kernel, rfl, by decide +kernel, by decide +kernel⟩
theorem ok_common {f fJ fL : Addr} {fd fdJ fdB : FuncData} {psJ psB : List Str} (T : Txt K mg CB fB CV CC CK aKW aPK) (F : Fun K "common" "Kinds.common" sCommon f fd) (GJ : Gm P w K mg base CK CX0 2 "joined" fJ fdJ psJ (spJoined P w CK)) (GB : Gm P w K mg base CK CX0 1 "below" fL fdB psB (spBelow P w CK)) :
    FnOk P w K mg base CX0 3 f fd ["self", "one", "two"] (spCommon P w CK) := by
  refine F.ok scCommon (fun vs H Q E h => ?_) (fun cdv A outer s H vs Q E hr h => ⟨_,
    pss_cons (ps_set (i := 3) scCommon.nd rfl (Or.inl rfl) (pe_lst (pa_cons (pe_tup (pa_cons (pv 1) (pa_cons (pv 2) pa_nil))) pa_nil)))
    (pss_cons (ps_while PassesOwn.never (pt_cmpR op_gt (pe_callB call_len (by rfl) T.len PySem.boot_len (pa_cons (pv 3) pa_nil)) pe_int (nomark _))
      (pss_cons (ps_set (i := 4) scCommon.nd rfl (Or.inl rfl) (pe_ix ix_list (pv 3) (pe_un un_neg pe_int) (fun _ _ => rfl)))
      (pss_one (ps_if (pt_cmp (pc_din (hu_of hr) (pv 4) (pe_fld (pv 0) rfl)))
        (pss_one (ps_expr (pe_bm0 PySem.F.plainAttrs_list PySem.F.slot_list_pop PySem.F.type_list_pop mt_pop (pv 3))))
        (pss_cons (ps_setLc (i := 5) (own := [("under", 6)]) (g := gName 6) (tt := tB (tDNotIn (tVar 6) (tFld K (tVar 0) "agreed"))) (te := tVar 6) rfl scCommon.nd rfl rfl (sw_true rfl rfl rfl (by decide +kernel)) (pi_list (pe_meth (pv 0) T.clK GB.M GB.F (hr.mono (by decide)) GB.b .nil pass0 (pa_cons (pv 4) pa_nil))) (blkOk_by (own := [("under", 6)]) (N := ["self", "one", "two", "todo", "pair", "waits", "under"]) (sc := defScope sCommon) (by decide +kernel))
          (fun _ _ _ _ _ => pg_name (i := 6) scCommon.nd rfl (Or.inl rfl)) (fun _ _ _ _ _ => pts_one (by exact pt_cmp (pc_dnotin (hu_of hr) (pv 6) (pe_fld (pv 0) rfl)))) (fun _ _ _ _ _ => pv 6))
        (pss_cons (ps_expr (pe_bm PySem.F.plainAttrs_list PySem.F.slot_list_extend PySem.F.type_list_extend mt_extend (pv 3) (pa_cons (pv 5) pa_nil)))
        (pss_one (ps_if (pt_cmpR op_eq (pe_callB call_len (by rfl) T.len PySem.boot_len (pa_cons (pv 5) pa_nil)) pe_int (nomark _))
          (pss_one (ps_dput (hu_of hr) (pe_fld (pv 0) rfl) (pv 4) (pe_meth (pv 0) T.clK GJ.M GJ.F hr GJ.b .nil pass0 (pa_cons (pv 4) pa_nil)) rfl)) pss_nil))))))))
    (pss_one (ps_ret (pe_dget (hu_of hr) (pe_fld (pv 0) rfl) (pe_tup (pa_cons (pv 1) (pa_cons (pv 2) pa_nil))) (fun _ _ => rfl))))), ?_⟩)
  · obtain ⟨ka, I, tb, A, i, j, B, m, T', A', c, rfl, _⟩ := h
    rfl
  · obtain ⟨ka, I, tb, A, i, j, B, m0, T', A', cc, rfl, kat, hB, hgo, hask, k⟩ := h
    refine ⟨_, rfl, _, rfl, (by show 2 ≤ sizeLine; decide), fun t ht => ⟨(by show 1 ≤ sizeLine; decide), fun ta hta => ?_⟩⟩
    have nta : H ta = none := by
      cases q : H ta with
      | none => rfl
      | some o => rw [upd_ne (fun z => by rw [← z, q] at ht; cases ht), q] at hta; cases hta
    obtain ⟨as0, er0, _⟩ := id kat.rows
    have tarl : ta ≠ I.rl := fun z => by rw [← z, nta] at er0; cases er0
    have kat0 : KAt P w CK (upd (upd H t (.tup [.int (i : Nat), .int (j : Nat)])) ta (.lst [.ref t])) ka I tb A := (kat.on (H' := upd H t (.tup [.int (i : Nat), .int (j : Nat)])) (fun b o e => by rw [upd_ne (ne_of_none e ht)]; exact e)).on (fun b o e => by rw [upd_ne (ne_of_none e hta)]; exact e)
    have kp0 : Kp [I.rl, I.nd, I.ad] H (upd (upd H t (.tup [.int (i : Nat), .int (j : Nat)])) ta (.lst [.ref t])) := ((Kp.refl _ _).new' ht).new' hta
    refine ⟨fun m σ H' => ∃ (s : CS) (as : List Addr) (x y : Option V), σ = [some (.ref ka), some (.int (i : Nat)), some (.int (j : Nat)), some (.ref ta), x, y, none] ∧ KAt P w CK H' ka I s.T s.A ∧ H' ta = some (.lst (as.map V.ref)) ∧ PairsAt H' s.todo.reverse as ∧ Goes B m s ⟨T', A', []⟩ ∧ Kp [I.rl, I.nd, I.ad] H H',
      ⟨m0, ⟨tb, A, [(i, j)]⟩, [t], none, none, rfl, kat0, upd_same, .cons ((upd_ne (ne_of_none upd_same hta)).trans upd_same) .nil, hgo, kp0⟩, ?_⟩
    rintro m σ H1 ⟨s, as, x, y, rfl, kat1, hl, pa, go, kp⟩
    have plen : as.length = s.todo.length := by rw [← Paired.length pa, List.length_reverse]
    refine ⟨_, rfl, _, _, rfl, .inl ⟨_, SqL.of hl, rfl⟩, _, _, rfl, rfl, _, rfl, ?_⟩
    rw [List.length_map, plen]
    refine idc (fun g => ?_) (fun g => ?_)
    · cases m with
      | zero =>
        have : s = ⟨T', A', []⟩ := go
        rw [this] at g
        have g' : ((0 : Nat) : Int) > 0 := g
        omega
      | succ m =>
      obtain ⟨⟨pi, pj, rest, htodo, ⟨xx, dx⟩, yy, dy⟩, good, b1, b2, b3, go'⟩ := go
      refine ⟨fun σ' H' => ∃ m', m' < m + 1 ∧ ∃ (s : CS) (as : List Addr) (x y : Option V), σ' = [some (.ref ka), some (.int (i : Nat)), some (.int (j : Nat)), some (.ref ta), x, y, none] ∧ KAt P w CK H' ka I s.T s.A ∧ H' ta = some (.lst (as.map V.ref)) ∧ PairsAt H' s.todo.reverse as ∧ Goes B m' s ⟨T', A', []⟩ ∧ Kp [I.rl, I.nd, I.ad] H H', fun _ _ h => h, ?_⟩
      obtain ⟨T1, A1, todo⟩ := s
      simp only at htodo kat1 pa plen dx dy good b1 b2 b3 g
      subst htodo
      -- the last of the list
      obtain ⟨bs, a, ebs, pbs, hpr⟩ : ∃ bs a, as = bs ++ [a] ∧ PairsAt H1 rest.reverse bs ∧ PrT H1 a pi pj := by
        rw [List.reverse_cons] at pa
        exact paired_snoc_inv pa
      subst ebs
      rw [List.map_append] at hl
      obtain ⟨dxk, ek⟩ := id kat1.obj
      refine ⟨_, rfl, 1, rfl, ta, _, _, _, rfl, rfl, SqL.of hl, at_last _ _, ?_⟩
      refine ⟨_, rfl, _, rfl, ka, CK, dxk, _, _, rfl, ek, T.clK, T.kAgreed, kF_agreed I, I.ad, _, rfl, DGet.t (k := pk (pi, pj)) kat1.agr hpr, _, rfl, ?_⟩
      rw [agV_val, Option.isSome_map]
      refine ib (fun c1 => ?_) (fun c1 => ?_)
      · rw [stepC_known rfl c1] at go'
        refine ⟨_, rfl, .inl ⟨rfl, _, SqL.of hl⟩, ta, _, .ref a, rfl, rfl, hl, ?_, ?_⟩
        · rw [List.length_append, List.map_singleton, List.length_singleton, Nat.add_sub_cancel, List.getElem?_append_right (Nat.le_refl _), Nat.sub_self]
          rfl
        · refine ⟨m, Nat.lt_succ_self _, ⟨T1, A1, rest⟩, bs, _, _, rfl, kat1.off hl tarl, ?_, pbs.on (fun b zs e => (upd_ne (ne_of e hl (fun z => nomatch z))).trans e), go', kp.wnew nta⟩
          rw [upd_same, List.map_singleton, List.dropLast_concat]
      have c1' : ask A1 (pi, pj) = none := by
        cases q : ask A1 (pi, pj) with
        | none => rfl
        | some c => rw [q] at c1; cases c1
      refine ⟨_, rfl, ka, dxk, _, rfl, ek, by rfl, _, rfl, ka, a, I, T1, A1, pi, pj, rfl, kat1, hpr, good.tab, den_lt dx, den_lt dy, fun H2 l ws s2 hl2 el pw => ?_⟩
      have wlen : ws.length = (below T1 pi pj).length := (Paired.length pw).symm
      have blen := below_len good.tab pi pj
      have kat2 := kat1.on s2
      refine ⟨l, rfl, ⟨_, SqL.of el⟩, fun D hD => ?_⟩
      refine lc_it (walk_list (K := K) (a := l) (xs := ws.map V.ref)) (fun q H' => Same H2 H' ∧ ∃ us : List Addr, H' D = some (.lst (us.map V.ref)) ∧ PairsAt H' (((below T1 pi pj).take q).filter fun p => (ask A1 p).isNone) us) ⟨Same.new hD, [], upd_same, .nil⟩ (fun q H' _ h => SqL.of (h.1 _ _ el)) ?_ ?_
      · rintro q v H3 H4 hq ⟨s3, us, hus, pus⟩ ⟨rfl, hx⟩
        rw [List.getElem?_map] at hx
        obtain ⟨b, hb, rfl⟩ := Option.map_eq_some_iff.mp hx
        have hql : q < (below T1 pi pj).length := by rw [← wlen]; exact (List.getElem?_eq_some_iff.mp hb).1
        obtain ⟨b', hb', hpt⟩ := paired_get pw (List.getElem?_eq_getElem hql)
        rw [hb] at hb'
        cases hb'
        have kat3 := kat2.on s3
        obtain ⟨dx3, ek3⟩ := id kat3.obj
        have ulen : us.length ≤ 100000 := by
          rw [← Paired.length pus]
          refine Nat.le_trans (List.length_filter_le _ _) ?_
          rw [List.length_take]
          omega
        have htk : (below T1 pi pj).take (q + 1) = (below T1 pi pj).take q ++ [(below T1 pi pj)[q]] := take_more (List.getElem?_eq_getElem hql)
        refine ⟨rfl, _, rfl, _, rfl, ka, CK, dx3, _, _, rfl, ek3, T.clK, T.kAgreed, kF_agreed I, I.ad, _, rfl, DGet.t (k := pk (below T1 pi pj)[q]) kat3.agr (s3 _ _ hpt), _, rfl, ?_⟩
        rw [agV_val, Option.isSome_map]
        cases hc : ask A1 (below T1 pi pj)[q] with
        | none =>
          refine iteT ⟨_, rfl, _, hus, by rw [List.length_map, sz_eq]; omega, fun b o e => ?_, us ++ [b], ?_, ?_⟩
          · rw [upd_ne (ne_of_none e hD)]
            exact s3 b o e
          · rw [upd_same, List.map_append]
            rfl
          · rw [htk, List.filter_append, List.filter_cons_of_pos (by rw [hc]; rfl)]
            exact paired_snoc (PairsAt.on pus fun c zs e => (upd_ne (ne_of e hus (fun z => nomatch z))).trans e) ((upd_ne (ne_of (s3 _ _ hpt) hus (fun z => nomatch z))).trans (s3 _ _ hpt))
        | some c =>
          refine iteF ⟨s3, us, hus, ?_⟩
          rw [htk, List.filter_append, List.filter_cons_of_neg (by rw [hc]; exact Bool.false_ne_true)]
          rw [List.filter_nil, List.append_nil]
          exact pus
      · rintro H3 ⟨s3, us, hus, pus⟩
        rw [List.length_map, wlen, List.take_length] at pus
        have s13 : Same H1 H3 := s2.trans s3
        have kat3 := kat1.on s13
        have hl3 := s13 _ _ hl
        have hpr3 : PrT H3 a pi pj := s13 _ _ hpr
        have Dta : D ≠ ta := fun z => by rw [z, s2 _ _ hl] at hD; cases hD
        have ulen : us.length ≤ 100000 := by
          rw [← Paired.length pus]
          exact Nat.le_trans (List.length_filter_le _ _) blen
        have pbs3 : PairsAt H3 rest.reverse bs := PairsAt.on pbs fun c zs e => s13 _ _ e
        have blen2 : bs.length + 1 ≤ B := by
          have e1 := Paired.length pbs
          rw [List.length_reverse] at e1
          have b1' : rest.length + 1 ≤ B := b1
          omega
        refine ⟨_, rfl, .inl ⟨rfl, _, SqL.of hl3⟩, _, rfl, ta, D, _, _, rfl, rfl, hl3, hus, ?_, ?_⟩
        · rw [List.length_append, List.length_map, List.length_map, List.length_map, List.length_singleton, sz_eq]
          omega
        have kat4 : KAt P w CK (upd H3 ta (.lst (bs.map V.ref ++ [a].map V.ref ++ us.map V.ref))) ka I T1 A1 := kat3.off hl3 tarl
        have tk4 : ∀ (c : Addr) (zs : List V), H3 c = some (.tup zs) → upd H3 ta (.lst (bs.map V.ref ++ [a].map V.ref ++ us.map V.ref)) c = some (.tup zs) := fun c zs e => (upd_ne (ne_of e hl3 (fun z => nomatch z))).trans e
        have kp4 : Kp [I.rl, I.nd, I.ad] H (upd H3 ta (.lst (bs.map V.ref ++ [a].map V.ref ++ us.map V.ref))) := (kp.trans (Kp.of s13)).wnew nta
        have hpr4 : PrT (upd H3 ta (.lst (bs.map V.ref ++ [a].map V.ref ++ us.map V.ref))) a pi pj := tk4 _ _ hpr3
        refine ⟨_, rfl, _, _, rfl, .inl ⟨_, SqL.of ((upd_ne Dta).trans hus), rfl⟩, rfl, _, rfl, ?_⟩
        rw [List.length_map, ← Paired.length pus]
        refine idc (fun c2 => ?_) (fun c2 => ?_)
        · have hw : (below T1 pi pj).filter (fun p => (ask A1 p).isNone) = [] := List.length_eq_zero_iff.mp (by have := V.int.inj c2; omega)
          rw [stepC_join c1' hw] at go'
          rw [hw] at pus
          cases pus
          obtain ⟨dx4, ek4⟩ := id kat4.obj
          have b2' : T1.length < B := b2
          have b3' : A1.length < B := b3
          refine ⟨_, rfl, ka, dx4, _, rfl, ek4, by rfl, _, rfl, ka, a, I, T1, A1, pi, pj, rfl, kat4, hpr4, good.tab, den_lt dx, den_lt dy, by omega, blen, fun p hp => ?_, fun H5 kat5 kp5 => ?_⟩
          · have := List.filter_eq_nil_iff.mp hw p hp
            cases q : ask A1 p with
            | none => rw [q] at this; exact absurd rfl this
            | some c => rfl
          obtain ⟨dx5, ek5⟩ := id kat5.obj
          obtain ⟨as4, er4, _⟩ := id kat4.rows
          obtain ⟨zs4, en4, _⟩ := id kat4.num
          have tup5 : ∀ (c : Addr) (zs : List V), upd H3 ta (.lst (bs.map V.ref ++ [a].map V.ref ++ ([] : List Addr).map V.ref)) c = some (.tup zs) → H5 c = some (.tup zs) := fun c zs e => kp5 _ _ e fun z => by
            rcases List.mem_cons.mp z with z | z
            · rw [z, er4] at e; cases e
            · rw [one_in z, en4] at e; cases e
          have hpr5 : PrT H5 a pi pj := tup5 _ _ hpr4
          refine ⟨_, rfl, ka, CK, dx5, _, _, rfl, ek5, T.clK, T.kAgreed, kF_agreed I, _, rfl, I.ad, _, rfl, DPut.t (k := pk (pi, pj)) kat5.agr hpr5 (by unfold agV; rw [List.length_map, sz_eq]; omega), ?_⟩
          have ta5 : H5 ta = some (.lst (bs.map V.ref ++ [a].map V.ref ++ ([] : List Addr).map V.ref)) := kp5 _ _ upd_same fun z => by
            rcases List.mem_cons.mp z with z | z
            · exact tarl z
            · rw [← one_in z, upd_same] at en4; cases en4
          have tk6 : ∀ (c : Addr) (zs : List V), H5 c = some (.tup zs) → upd H5 I.ad (.dT (putK (agV A1) (pk (pi, pj)) (cV (joined T1 A1 pi pj).1))) c = some (.tup zs) := fun c zs e => (upd_ne (ne_of e kat5.agr (fun z => nomatch z))).trans e
          refine ⟨m, Nat.lt_succ_self _, ⟨(joined T1 A1 pi pj).2, A1 ++ [((pi, pj), (joined T1 A1 pi pj).1)], (pi, pj) :: rest⟩, bs ++ [a], _, _, rfl, kat5.agree c1', ?_, ?_, go', ((kp4.trans (kp5.mono fun b hb => ?_)).write' (by simp))⟩
          · rw [upd_ne (ne_of ta5 kat5.agr (fun z => nomatch z)), ta5, List.map_append]
            simp
          · rw [List.reverse_cons]
            exact paired_snoc (PairsAt.on (PairsAt.on (PairsAt.on pbs3 tk4) tup5) tk6) (tk6 _ _ hpr5)
          · rcases List.mem_cons.mp hb with hb | hb
            · rw [hb]; simp
            · rw [one_in hb]; simp
        · have hw : (below T1 pi pj).filter (fun p => (ask A1 p).isNone) ≠ [] := fun z => c2 (by rw [z]; rfl)
          rw [stepC_wait c1' hw] at go'
          refine ⟨m, Nat.lt_succ_self _, ⟨T1, A1, ((below T1 pi pj).filter fun p => (ask A1 p).isNone).reverse ++ (pi, pj) :: rest⟩, bs ++ [a] ++ us, _, _, rfl, kat4, ?_, ?_, go', kp4⟩
          · rw [upd_same, List.map_append, List.map_append]
          · rw [List.reverse_append, List.reverse_reverse, List.reverse_cons]
            exact paired_append (paired_snoc (PairsAt.on pbs3 tk4) hpr4) (PairsAt.on pus tk4)
    · have hs : s = ⟨T', A', []⟩ := by
        cases m with
        | zero => exact go
        | succ m =>
          obtain ⟨⟨pi, pj, rest, htodo, _⟩, _⟩ := go
          rw [htodo, List.length_cons] at g
          exact absurd (show ((rest.length + 1 : Nat) : Int) > 0 by omega) g
      subst hs
      obtain ⟨dx1, ek1⟩ := id kat1.obj
      refine ⟨_, rfl, ka, CK, dx1, _, _, rfl, ek1, T.clK, T.kAgreed, kF_agreed I, _, rfl, _, rfl, (by show 2 ≤ sizeLine; decide), fun u hu => ?_⟩
      have kat2 := kat1.on (H' := upd H1 u (.tup [.int (i : Nat), .int (j : Nat)])) (fun b o e => by rw [upd_ne (ne_of_none e hu)]; exact e)
      refine ⟨I.ad, cV cc, rfl, ?_, k _ kat2 (kp.new' hu)⟩
      have hv : valV (agV A') (pk (i, j)) = some (cV cc) := by rw [agV_val, hask]; rfl
      rw [← hv]
      exact DGet.t (k := pk (i, j)) kat2.agr upd_same
end
end Ag

set_option maxRecDepth 100000
set_option maxHeartbeats 2000000
namespace Ag
open PySem PySem.Spec PyProof.Rows L2
theorem bS_list : bS bList = "list" := by decide +kernel
theorem bS_record : bS bRecord = "record" := by decide +kernel
theorem bS_in : bS bIn = "in" := by decide +kernel
theorem bS_sort : bS bSort = "sort" := by decide +kernel
/-- zip of two tuples, walked -/
theorem walk_zipT {K : PySem.W.Frag} {a b : Addr} {xs ys : List V} {n : Nat} (hn : n = min xs.length ys.length) : Walk (RZ.ItzT K a b) n (fun H => SqT K H a xs ∧ SqT K H b ys) (YPair (fun i => xs[i]?) (fun i => ys[i]?)) := by
  subst hn
  refine ⟨fun i _ hi q => ?_, fun _ q => ⟨xs, ys, q.1, q.2, by omega⟩, fun i H v H' _ q y => ?_⟩
  · have l1 : i < xs.length := by omega
    have l2 : i < ys.length := by omega
    exact ⟨xs, ys, xs[i], ys[i], q.1, q.2, List.getElem?_eq_getElem l1, List.getElem?_eq_getElem l2⟩
  · obtain ⟨t, x, z, e1, e2, e3, e4, e5⟩ := y
    exact ⟨t, x, z, e1, e2, e3, e4 xs q.1, e5 ys q.2⟩
/-- a piece: bytes, and the kind behind them -/
def PcAt (N : Addr → Prop) (H : Hp) (p : Sw.Bytes × Option Nat) (a : Addr) : Prop := ∃ b, H a = some (.tup [.ref b, cV p.2]) ∧ H b = some (.lst (bV p.1)) ∧ N b
theorem PcAt.on {N N' : Addr → Prop} {H H' : Hp} {p : Sw.Bytes × Option Nat} {a : Addr} (h : PcAt N H p a) (e : ∀ b o, H b = some o → ((∃ ys, o = .tup ys) ∨ N b) → H' b = some o) (n : ∀ b, N b → N' b) : PcAt N' H' p a := by
  obtain ⟨b, h1, h2, h3⟩ := h
  exact ⟨b, e _ _ h1 (.inl ⟨_, rfl⟩), e _ _ h2 (.inr h3), n _ h3⟩
section
variable {P : Program} {w : World} {K : PySem.W.Frag} {mg : Str → Option Value} {base : Heap} {CB fB CV CC CK aKW aPK : Addr}
theorem one_piece {H H3 : Hp} {q t l : Addr} {bs : Sw.Bytes} {c : Option Nat} (s : Same H H3) (eq : H3 q = some (.lst (bV bs))) (nq : H q = none) (ht : H3 t = none) (hl : upd H3 t (.tup [.ref q, cV c]) l = none) :
    Same H (upd (upd H3 t (.tup [.ref q, cV c])) l (.lst [.ref t])) ∧ H l = none ∧ (upd (upd H3 t (.tup [.ref q, cV c])) l (.lst [.ref t])) l = some (.lst (([t] : List Addr).map V.ref)) ∧
    Paired (PcAt (fun b => H b = none) (upd (upd H3 t (.tup [.ref q, cV c])) l (.lst [.ref t]))) [(bs, c)] [t] := by
  have s1 : Same H (upd H3 t (.tup [.ref q, cV c])) := s.trans (Same.new ht)
  refine ⟨s1.trans (Same.new hl), Same.none s1 hl, upd_same, .cons ⟨q, (upd_ne (ne_of_none upd_same hl)).trans upd_same, ?_, nq⟩ .nil⟩
  have e1 := (upd_ne (o := .tup [.ref q, cV c]) (ne_of_none eq ht)).trans eq
  exact (upd_ne (ne_of_none e1 hl)).trans e1
theorem nmB_small {b : Sw.Bytes} (h : b.length ≤ 64) : (nmB b).length ≤ 65 := by
  rw [nmB_len (by omega)]
  omega
/-! ## pieces_of -/
def spPieces : Sp := fun vs H Q _ => ∃ (row : Addr) (r : Rw), vs = [.ref row] ∧ RowT H row r ∧ RwOk r ∧ ∀ (H' : Hp) (l : Addr) (as : List Addr), Same H H' → H l = none → H' l = some (.lst (as.map V.ref)) → Paired (PcAt (fun b => H b = none) H') (pieces r) as → Q (.ref l) H'
theorem scPieces : FnScope ["row", "home", "head", "name", "kind"] ["row"] (defScope sPiecesOf) := ⟨rfl, rfl, rfl, by decide +kernel, rfl, by decide +kernel, by decide +kernel⟩
theorem nmB_eq (b : Sw.Bytes) : Sw.vary b.length ++ b = nmB b := rfl
theorem ok_pieces {f fN fT fR : Addr} {fd fdN fdT fdR : FuncData} {psN psT psR : List Str} (T : Txt K mg CB fB CV CC CK aKW aPK) (F : Fun K "pieces_of" "pieces_of" sPiecesOf f fd)
    (GN : Gf P w K mg base CX0 2 "name_bytes" fN fdN psN spNameB) (GT : Gf P w K mg base CX0 3 "text_bytes" fT fdT psT spTextB) (GR : Gf P w K mg base CX0 2 "record_head" fR fdR psR spRecHead) : FnOk P w K mg base CX0 4 f fd ["row"] spPieces := by
  refine F.ok scPieces (fun vs H Q E h => ?_) (fun cdv A outer s H vs Q E hr h => ⟨_,
    pss_cons (ps_if (pt_cmpR op_eq (pe_ix ix_tup (pv 0) pe_int (fun _ _ => rfl)) pe_str (nomark _))
      (pss_one (ps_ret (pe_lst (pa_cons (pe_tup (pa_cons (pe_op op_cat (pe_g GR (hr.mono (by decide)) pass0 (pa_cons pe_int pa_nil)) (pe_g GN (hr.mono (by decide)) pass0 (pa_cons pe_str pa_nil))) (pa_cons (pe_ix ix_tup (pv 0) pe_int (fun _ _ => rfl)) pa_nil))) pa_nil)))) pss_nil)
    (pss_cons (ps_if (pt_cmpR op_eq (pe_ix ix_tup (pv 0) pe_int (fun _ _ => rfl)) pe_str (nomark _))
      (pss_cons (ps_set (i := 1) scPieces.nd rfl (Or.inl rfl) (pe_op op_cat (pe_g GN (hr.mono (by decide)) pass0 (pa_cons pe_str pa_nil)) (pe_g GT hr pass0 (pa_cons (pe_ix ix_tup (pv 0) pe_int (fun _ _ => rfl)) pa_nil))))
      (pss_one (ps_ret (pe_lst (pa_cons (pe_tup (pa_cons (pe_op op_cat (pe_op op_cat (pe_op op_cat (pe_g GR (hr.mono (by decide)) pass0 (pa_cons pe_int pa_nil)) (pv 1)) (pe_g GN (hr.mono (by decide)) pass0 (pa_cons pe_str pa_nil))) (pe_g GT hr pass0 (pa_cons (pe_ix ix_tup (pv 0) pe_int (fun _ _ => rfl)) pa_nil))) (pa_cons (pe_gi T.none) pa_nil))) pa_nil))))) pss_nil)
    (pss_cons (ps_if (pt_cmpR op_eq (pe_ix ix_tup (pv 0) pe_int (fun _ _ => rfl)) pe_str (nomark _))
      (pss_cons (ps_set (i := 2) scPieces.nd rfl (Or.inl rfl) (pe_op op_cat (pe_op op_cat (pe_g GR (hr.mono (by decide)) pass0 (pa_cons pe_int pa_nil)) (pe_g GN (hr.mono (by decide)) pass0 (pa_cons pe_str pa_nil))) (pe_g GR (hr.mono (by decide)) pass0 (pa_cons (pe_callB call_len (by rfl) T.len PySem.boot_len (pa_cons (pe_ix ix_tup (pv 0) pe_int (fun _ _ => rfl)) pa_nil)) pa_nil))))
      (pss_one (ps_ret (pe_op op_cat (pe_lst (pa_cons (pe_tup (pa_cons (pv 2) (pa_cons (pe_gi T.none) pa_nil))) pa_nil))
        (pe_lc (own := [("name", 3), ("kind", 4)]) (g := gTup K 2 (gCons (gName 3) (gCons (gName 4) gNil))) (tt := tYes) (te := tTup (tCons (tCall spNameB [] E0 (tCons (tVar 3) tNil)) (tCons (tVar 4) tNil))) rfl scPieces.nd (RZ.pi_zipA rfl T.zip (pa_cons (pe_ix ix_tup (pv 0) pe_int (fun _ _ => rfl)) (pa_cons (pe_ix ix_tup (pv 0) pe_int (fun _ _ => rfl)) pa_nil)))
          (blkOk_by (own := [("name", 3), ("kind", 4)]) (N := ["row", "home", "head", "name", "kind"]) (sc := defScope sPiecesOf) (by decide +kernel))
          (fun _ _ _ _ _ => by exact pg_tup rfl (pgs_cons (pg_name (i := 3) scPieces.nd rfl (Or.inl rfl)) (pgs_cons (pg_name (i := 4) scPieces.nd rfl (Or.inl rfl)) pgs_nil))) (fun _ _ _ _ _ => pts_nil)
          (fun _ _ _ _ _ => by exact pe_tup (pa_cons (pe_g GN (hr.mono (by decide)) pass0 (pa_cons (pv 3) pa_nil)) (pa_cons (pv 4) pa_nil)))))))) pss_nil)
    (pss_one (ps_ret (pe_lst (pa_cons (pe_tup (pa_cons (pe_g GT hr pass0 (pa_cons (pe_ix ix_tup (pv 0) pe_int (fun _ _ => rfl)) pa_nil)) (pa_cons (pe_gi T.none) pa_nil))) pa_nil)))))), ?_⟩)
  · obtain ⟨row, r, rfl, _⟩ := h
    rfl
  · obtain ⟨row, r, rfl, hrow, ok, k⟩ := h
    obtain ⟨xs0, hd⟩ := hrow.head
    have at0 : ∀ {H' : Hp}, Same H H' → SqT K H' row (.str (rhd r) :: xs0) := fun sm => SqT.of (sm _ _ hd)
    refine ⟨_, rfl, row, _, _, _, rfl, rfl, SqT.of hd, at_of (j := 0) rfl rfl, rfl, _, rfl, ?_⟩
    cases r with
    | word b =>
      have w1 := word_ne ok
      obtain ⟨kk, hkk⟩ := id ok
      have wl := (wl_words (List.mem_map.mpr ⟨_, hkk, rfl⟩ : b ∈ wlK.map (·.1))).2.1
      refine itf (decide_eq_false fun z => w1.1 (V.str.inj z)) ⟨_, rfl, row, _, _, _, rfl, rfl, SqT.of hd, at_of (j := 0) rfl rfl, rfl, _, rfl, ?_⟩
      refine itf (decide_eq_false fun z => w1.2.2 (V.str.inj z)) ⟨_, rfl, row, _, _, _, rfl, rfl, SqT.of hd, at_of (j := 0) rfl rfl, rfl, _, rfl, ?_⟩
      refine itf (decide_eq_false fun z => w1.2.1 (V.str.inj z)) ⟨_, rfl, row, _, _, _, rfl, rfl, SqT.of hd, at_of (j := 0) rfl rfl, ?_⟩
      refine ⟨b, rfl, by omega, fun p1 H1 hp1 s1 e1 => ?_⟩
      refine ⟨(by show 2 ≤ sizeLine; decide), fun t ht => ⟨(by show 1 ≤ sizeLine; decide), fun l hl => ?_⟩⟩
      obtain ⟨g1, g2, g3, g4⟩ := one_piece (c := none) s1 e1 hp1 ht hl
      exact k _ l [t] g1 g2 g3 g4
    | list u =>
      refine itt (decide_eq_true rfl) ⟨1, rfl, by decide, fun p1 H1 hp1 s1 e1 => ⟨bList, by rw [bS_list]; rfl, by rw [bList_len]; decide, fun p2 H2 hp2 s2 e2 => ⟨p1, p2, _, _, rfl, rfl, s2 _ _ e1, e2, ?_, fun q hq => ?_⟩⟩⟩
      · rw [nmB_eq, bV_length, bV_length, List.length_cons, vary_one (by decide), nmB_len (by rw [bList_len]; decide), bList_len, sz_eq]
        decide
      have s12 := s1.trans s2
      have s3 : Same H (upd H2 q (.lst (bV (6 :: Sw.vary 1) ++ bV (Sw.vary bList.length ++ bList)))) := s12.trans (Same.new hq)
      refine ⟨_, rfl, row, _, _, _, rfl, rfl, SqT.of (s3 _ _ hrow), at_of (j := 1) rfl rfl, (by show 2 ≤ sizeLine; decide), fun t ht => ⟨(by show 1 ≤ sizeLine; decide), fun l hl => ?_⟩⟩
      rw [← bV_append] at *
      obtain ⟨g1, g2, g3, g4⟩ := one_piece (c := some u) s3 upd_same (Same.none s12 hq) ht hl
      exact k _ l [t] g1 g2 g3 g4
    | sort m n =>
      have l1 := name_len ok.1
      have l2 := name_len ok.2
      refine itf (decide_eq_false fun z => sl_ne (V.str.inj z)) ⟨_, rfl, row, _, _, _, rfl, rfl, SqT.of hd, at_of (j := 0) rfl rfl, rfl, _, rfl, ?_⟩
      refine itt (decide_eq_true rfl) ⟨bIn, by rw [bS_in]; rfl, by rw [bIn_len]; decide, fun p1 H1 hp1 s1 e1 => ⟨_, rfl, row, _, _, _, rfl, rfl, SqT.of (s1 _ _ hrow), at_of (j := 1) rfl rfl, m, rfl, by omega, fun p2 H2 hp2 s2 e2 => ⟨p1, p2, _, _, rfl, rfl, s2 _ _ e1, e2, ?_, fun q hq => ?_⟩⟩⟩
      · rw [nmB_eq, nmB_eq, bV_length, bV_length, List.length_cons, nmB_len (b := bIn) (by rw [bIn_len]; decide), nmB_len (b := m) (by omega), bIn_len, sz_eq]
        omega
      have s12 := s1.trans s2
      rw [← bV_append]
      have s3 : Same H (upd H2 q (.lst (bV (Sw.vary bIn.length ++ bIn ++ 4 :: (Sw.vary m.length ++ m))))) := s12.trans (Same.new hq)
      have eq3 : (upd H2 q (.lst (bV (Sw.vary bIn.length ++ bIn ++ 4 :: (Sw.vary m.length ++ m))))) q = some (.lst (bV (Sw.vary bIn.length ++ bIn ++ 4 :: (Sw.vary m.length ++ m)))) := upd_same
      generalize upd H2 q (.lst (bV (Sw.vary bIn.length ++ bIn ++ 4 :: (Sw.vary m.length ++ m)))) = H3 at s3 eq3
      refine ⟨2, rfl, by decide, fun p4 H4 hp4 s4 e4 => ⟨_, rfl, p4, q, _, _, rfl, rfl, e4, s4 _ _ eq3, ?_, fun q5 hq5 => ?_⟩⟩
      · rw [nmB_eq, nmB_eq, bV_length, bV_length, List.length_cons, List.length_append, List.length_cons, vary_one (by decide), nmB_len (b := bIn) (by rw [bIn_len]; decide), nmB_len (b := m) (by omega), bIn_len, sz_eq]
        omega
      rw [← bV_append]
      have s5 : Same H (upd H4 q5 (.lst (bV (6 :: Sw.vary 2 ++ (Sw.vary bIn.length ++ bIn ++ 4 :: (Sw.vary m.length ++ m)))))) := (s3.trans s4).trans (Same.new hq5)
      have eq5 : (upd H4 q5 (.lst (bV (6 :: Sw.vary 2 ++ (Sw.vary bIn.length ++ bIn ++ 4 :: (Sw.vary m.length ++ m)))))) q5 = some (.lst (bV (6 :: Sw.vary 2 ++ (Sw.vary bIn.length ++ bIn ++ 4 :: (Sw.vary m.length ++ m))))) := upd_same
      generalize upd H4 q5 (.lst (bV (6 :: Sw.vary 2 ++ (Sw.vary bIn.length ++ bIn ++ 4 :: (Sw.vary m.length ++ m))))) = H5 at s5 eq5
      refine ⟨bSort, by rw [bS_sort]; rfl, by rw [bSort_len]; decide, fun p6 H6 hp6 s6 e6 => ⟨q5, p6, _, _, rfl, rfl, s6 _ _ eq5, e6, ?_, fun q7 hq7 => ?_⟩⟩
      · rw [nmB_eq, nmB_eq, nmB_eq, bV_length, bV_length, List.length_append, List.length_cons, List.length_append, List.length_cons, vary_one (by decide), nmB_len (b := bIn) (by rw [bIn_len]; decide), nmB_len (b := m) (by omega), nmB_len (b := bSort) (by rw [bSort_len]; decide), bIn_len, bSort_len, sz_eq]
        omega
      rw [← bV_append]
      have s7 : Same H (upd H6 q7 (.lst (bV (6 :: Sw.vary 2 ++ (Sw.vary bIn.length ++ bIn ++ 4 :: (Sw.vary m.length ++ m)) ++ (Sw.vary bSort.length ++ bSort))))) := (s5.trans s6).trans (Same.new hq7)
      have eq7 : (upd H6 q7 (.lst (bV (6 :: Sw.vary 2 ++ (Sw.vary bIn.length ++ bIn ++ 4 :: (Sw.vary m.length ++ m)) ++ (Sw.vary bSort.length ++ bSort))))) q7 = some (.lst (bV (6 :: Sw.vary 2 ++ (Sw.vary bIn.length ++ bIn ++ 4 :: (Sw.vary m.length ++ m)) ++ (Sw.vary bSort.length ++ bSort)))) := upd_same
      generalize upd H6 q7 (.lst (bV (6 :: Sw.vary 2 ++ (Sw.vary bIn.length ++ bIn ++ 4 :: (Sw.vary m.length ++ m)) ++ (Sw.vary bSort.length ++ bSort)))) = H7 at s7 eq7
      refine ⟨_, rfl, row, _, _, _, rfl, rfl, SqT.of (s7 _ _ hrow), at_of (j := 2) rfl rfl, n, rfl, by omega, fun p8 H8 hp8 s8 e8 => ⟨q7, p8, _, _, rfl, rfl, s8 _ _ eq7, e8, ?_, fun q9 hq9 => ?_⟩⟩
      · rw [nmB_eq, nmB_eq, nmB_eq, nmB_eq, bV_length, bV_length, List.length_append, List.length_append, List.length_cons, List.length_append, List.length_cons, List.length_cons, vary_one (by decide), nmB_len (b := bIn) (by rw [bIn_len]; decide), nmB_len (b := m) (by omega), nmB_len (b := bSort) (by rw [bSort_len]; decide), nmB_len (b := n) (by omega), bIn_len, bSort_len, sz_eq]
        omega
      rw [← bV_append]
      refine ⟨(by show 2 ≤ sizeLine; decide), fun t ht => ⟨(by show 1 ≤ sizeLine; decide), fun l hl => ?_⟩⟩
      have s78 := s7.trans s8
      obtain ⟨g1, g2, g3, g4⟩ := one_piece (c := none) (s78.trans (Same.new hq9)) upd_same (Same.none s78 hq9) ht hl
      exact k _ l [t] g1 g2 g3 g4
    | rcd ns ks =>
      obtain ⟨nn, kk, q1, q2, q3⟩ := id hrow
      obtain ⟨o1, o2, o3⟩ := ok
      have nslen : (txV ns).length = ns.length := by unfold txV; rw [List.length_map]
      have kslen : (inV2 ks).length = ks.length := by unfold inV2; rw [List.length_map]
      refine itf (decide_eq_false fun z => rl_ne (V.str.inj z)) ⟨_, rfl, row, _, _, _, rfl, rfl, SqT.of hd, at_of (j := 0) rfl rfl, rfl, _, rfl, ?_⟩
      refine itf (decide_eq_false fun z => sr_ne (V.str.inj z).symm) ⟨_, rfl, row, _, _, _, rfl, rfl, SqT.of hd, at_of (j := 0) rfl rfl, rfl, _, rfl, ?_⟩
      refine itt (decide_eq_true rfl) ⟨1, rfl, by decide, fun p1 H1 hp1 s1 e1 => ⟨bRecord, by rw [bS_record]; rfl, by rw [bRecord_len]; decide, fun p2 H2 hp2 s2 e2 => ⟨p1, p2, _, _, rfl, rfl, s2 _ _ e1, e2, ?_, fun q hq => ?_⟩⟩⟩
      · rw [nmB_eq, bV_length, bV_length, List.length_cons, vary_one (by decide), nmB_len (by rw [bRecord_len]; decide), bRecord_len, sz_eq]
        decide
      rw [← bV_append]
      have s3 : Same H (upd H2 q (.lst (bV (6 :: Sw.vary 1 ++ (Sw.vary bRecord.length ++ bRecord))))) := (s1.trans s2).trans (Same.new hq)
      have eq3 : (upd H2 q (.lst (bV (6 :: Sw.vary 1 ++ (Sw.vary bRecord.length ++ bRecord))))) q = some (.lst (bV (6 :: Sw.vary 1 ++ (Sw.vary bRecord.length ++ bRecord)))) := upd_same
      generalize upd H2 q (.lst (bV (6 :: Sw.vary 1 ++ (Sw.vary bRecord.length ++ bRecord)))) = H3 at s3 eq3
      refine ⟨_, rfl, row, _, _, _, rfl, rfl, SqT.of (s3 _ _ q1), at_of (j := 1) rfl rfl, _, _, rfl, .inr ⟨_, SqT.of (s3 _ _ q2), rfl⟩, ns.length, by rw [nslen]; rfl, by omega, fun p4 H4 hp4 s4 e4 => ⟨q, p4, _, _, rfl, rfl, s4 _ _ eq3, e4, ?_, fun q5 hq5 => ?_⟩⟩
      · rw [nmB_eq, bV_length, bV_length, List.length_append, List.length_cons, List.length_cons, vary_one (by decide), nmB_len (by rw [bRecord_len]; decide), bRecord_len, sz_eq]
        have := vary5 (n := ns.length) (by omega)
        omega
      rw [← bV_append]
      have s34 := s3.trans s4
      have s5 : Same H (upd H4 q5 (.lst (bV (6 :: Sw.vary 1 ++ (Sw.vary bRecord.length ++ bRecord) ++ 6 :: Sw.vary ns.length)))) := s34.trans (Same.new hq5)
      have eq5 : (upd H4 q5 (.lst (bV (6 :: Sw.vary 1 ++ (Sw.vary bRecord.length ++ bRecord) ++ 6 :: Sw.vary ns.length)))) q5 = some (.lst (bV (6 :: Sw.vary 1 ++ (Sw.vary bRecord.length ++ bRecord) ++ 6 :: Sw.vary ns.length))) := upd_same
      have nq5 : H q5 = none := Same.none s34 hq5
      generalize upd H4 q5 (.lst (bV (6 :: Sw.vary 1 ++ (Sw.vary bRecord.length ++ bRecord) ++ 6 :: Sw.vary ns.length))) = H5 at s5 eq5
      refine ⟨_, rfl, (by show 2 ≤ sizeLine; decide), fun t ht => ⟨(by show 1 ≤ sizeLine; decide), fun l hl => ?_⟩⟩
      obtain ⟨g1, g2, g3, g4⟩ := one_piece (c := none) s5 eq5 nq5 ht hl
      rw [show cV none = V.int (-1) from rfl] at g1 g3 g4
      generalize upd (upd H5 t (.tup [.ref q5, .int (-1)])) l (.lst [.ref t]) = H6 at g1 g3 g4
      refine ⟨_, rfl, row, _, _, _, rfl, rfl, SqT.of (g1 _ _ q1), at_of (j := 1) rfl rfl, _, rfl, row, _, _, _, rfl, rfl, SqT.of (g1 _ _ q1), at_of (j := 2) rfl rfl, nn, kk, _, _, rfl, .inr ⟨SqT.of (g1 _ _ q2), SqT.of (g1 _ _ q3), fun D hD => ?_⟩⟩
      have zl : (ns.zip ks).length = ns.length := by rw [List.length_zip]; omega
      refine lc_it (walk_zipT (K := K) (a := nn) (b := kk) (n := ns.length) (by rw [nslen, kslen]; omega)) (fun j H' => Same H6 H' ∧ ∃ us : List Addr, H' D = some (.lst (us.map V.ref)) ∧ Paired (PcAt (fun b => H b = none ∧ b ≠ D) H') (((ns.zip ks).map fun p => (nmB p.1, some p.2)).take j) us)
        ⟨Same.new hD, [], upd_same, .nil⟩ (fun j H' _ h => ⟨SqT.of (h.1 _ _ (g1 _ _ q2)), SqT.of (h.1 _ _ (g1 _ _ q3))⟩) ?_ ?_
      · rintro j v H7 H8 hj ⟨s7, us, hus, pus⟩ ⟨t2, x, y, rfl, ht2, rfl, hx, hy⟩
        have hxn : ns[j]? = some ns[j] := List.getElem?_eq_getElem hj
        have hkj : j < ks.length := by omega
        have hyk : ks[j]? = some ks[j] := List.getElem?_eq_getElem hkj
        have ex : x = .str (bS ns[j]) := by
          have h' : (txV ns)[j]? = some x := hx
          unfold txV at h'
          rw [List.getElem?_map, hxn] at h'
          exact (Option.some.inj h').symm
        have ey : y = .int (ks[j] : Nat) := by
          have h' : (inV2 ks)[j]? = some y := hy
          unfold inV2 at h'
          rw [List.getElem?_map, hyk] at h'
          exact (Option.some.inj h').symm
        subst ex ey
        have hzj : ((ns.zip ks).map fun p => (nmB p.1, some p.2))[j]? = some (nmB ns[j], some ks[j]) := by
          rw [List.getElem?_map, List.getElem?_zip_eq_some (z := (ns[j], ks[j])) |>.mpr ⟨hxn, hyk⟩]
          rfl
        have hname := name_len (o1 _ (List.getElem_mem hj))
        have ulen : us.length ≤ 100000 := by
          rw [← Paired.length pus, List.length_take]
          omega
        have s8 : Same H6 (upd H7 t2 (.tup [.str (bS ns[j]), .int (ks[j] : Nat)])) := s7.trans (Same.new ht2)
        refine ⟨t2, _, rfl, SqT.of upd_same, rfl, _, _, rfl, _, _, rfl, rfl, rfl, ?_⟩
        refine ⟨_, rfl, ns[j], rfl, by omega, fun p9 H9 hp9 s9 e9 => ⟨_, rfl, (by show 2 ≤ sizeLine; decide), fun t3 ht3 => ?_⟩⟩
        have hD9 : H9 D = some (.lst (us.map V.ref)) := s9 _ _ ((upd_ne (ne_of_none hus ht2)).trans hus)
        have hD10 : (upd H9 t3 (.tup [.ref p9, .int (ks[j] : Nat)])) D = some (.lst (us.map V.ref)) := (upd_ne (ne_of_none hD9 ht3)).trans hD9
        have e10 := (upd_ne (o := .tup [.ref p9, .int (ks[j] : Nat)]) (ne_of_none e9 ht3)).trans e9
        have p9D : p9 ≠ D := fun z => by
          have := (upd_ne (o := .tup [.str (bS ns[j]), .int (ks[j] : Nat)]) (ne_of_none hus ht2)).trans hus
          rw [← z, hp9] at this
          cases this
        refine ⟨_, hD10, by rw [List.length_map, sz_eq]; omega, fun b o e => ?_, us ++ [t3], ?_, ?_⟩
        · have e8 := s9 _ _ (s8 _ _ e)
          rw [upd_ne (ne_of_none e hD), upd_ne (ne_of_none e8 ht3)]
          exact e8
        · rw [upd_same, List.map_append]
          rfl
        · rw [take_more hzj]
          refine paired_snoc (Paired.mapP pus fun p a z => z.on (fun b o e he => ?_) fun b h => h) ⟨p9, ?_, ?_, ?_⟩
          · have e8 := s9 _ _ ((upd_ne (ne_of_none e ht2)).trans e)
            have e11 := (upd_ne (o := .tup [.ref p9, .int (ks[j] : Nat)]) (ne_of_none e8 ht3)).trans e8
            refine (upd_ne fun z => ?_).trans e11
            rw [z, hus] at e
            cases e
            rcases he with ⟨ys, he⟩ | he
            · cases he
            · exact he.2 z
          · exact (upd_ne (Ne.symm (ne_of_none hD9 ht3))).trans upd_same
          · exact (upd_ne p9D).trans e10
          · exact ⟨Same.none (g1.trans s8) hp9, p9D⟩
      · rintro H7 ⟨s7, us, hus, pus⟩
        rw [← zl, List.take_of_length_le (by rw [List.length_map]; exact Nat.le_refl _)] at pus
        refine ⟨l, D, _, _, rfl, rfl, s7 _ _ g3, hus, ?_, fun q hq => ?_⟩
        · rw [List.length_map, List.length_map, ← Paired.length pus, List.length_map, zl, sz_eq]
          show 1 + ns.length ≤ 16777216
          omega
        · rw [← List.map_append]
          refine k _ q (t :: us) ((g1.trans s7).trans (Same.new hq)) (Same.none (g1.trans s7) hq) upd_same ?_
          exact paired_append (Paired.mapP g4 fun p a z => z.on (fun b o e _ => (upd_ne (ne_of_none (s7 _ _ e) hq)).trans (s7 _ _ e)) fun b h => h) (Paired.mapP pus fun p a z => z.on (fun b o e _ => (upd_ne (ne_of_none e hq)).trans e) fun b h => h.1)
end
end Ag

set_option maxRecDepth 100000
set_option maxHeartbeats 2000000
namespace Ag
open PySem PySem.Spec PyProof.Rows L2
theorem paired_reverse {α β : Type} {R : α → β → Prop} {xs : List α} {ys : List β} (h : Paired R xs ys) : Paired R xs.reverse ys.reverse := by
  induction h with
  | nil => exact .nil
  | cons r t ih =>
    rw [List.reverse_cons, List.reverse_cons]
    exact paired_append ih (.cons r .nil)
section
variable {P : Program} {w : World} {K : PySem.W.Frag} {mg : Str → Option Value} {base : Heap} {CB fB CV CC CK aKW aPK : Addr}
/-! ## told_bytes -/
def spToldB (P : Program) (w : World) (CK : Addr) : Sp := fun vs H Q _ => ∃ (ka : Addr) (I : KI) (T : List Rw) (A : Agd) (n m : Nat) (bs : Sw.Bytes), vs = [.ref ka, .int (n : Nat)] ∧ KAt P w CK H ka I T A ∧ Tab T ∧ Emits T m [([], some n)] bs ∧ bs.length ≤ 1000000 ∧ NewB H bs Q
theorem scToldB : FnScope ["kinds", "kind", "out", "todo", "ahead", "inner"] ["kinds", "kind"] (defScope sToldBytes) := ⟨rfl, rfl, rfl, by decide +kernel, rfl, by decide +kernel, by decide +kernel⟩
theorem ok_toldB {f fP : Addr} {fd fdP : FuncData} {psP : List Str} (T : Txt K mg CB fB CV CC CK aKW aPK) (F : Fun K "told_bytes" "told_bytes" sToldBytes f fd) (GP : Gf P w K mg base CX0 4 "pieces_of" fP fdP psP spPieces) : FnOk P w K mg base CX0 5 f fd ["kinds", "kind"] (spToldB P w CK) := by
  refine F.ok scToldB (fun vs H Q E h => ?_) (fun cdv A outer s H vs Q E hr h => ⟨_,
    pss_cons (ps_set (i := 2) scToldB.nd rfl (Or.inl rfl) (pe_lst pa_nil))
    (pss_cons (ps_set (i := 3) scToldB.nd rfl (Or.inl rfl) (pe_lst (pa_cons (pe_tup (pa_cons (pe_lst pa_nil) (pa_cons (pv 1) pa_nil))) pa_nil)))
    (pss_cons (ps_while PassesOwn.never (pt_cmpR op_gt (pe_callB call_len (by rfl) T.len PySem.boot_len (pa_cons (pv 3) pa_nil)) pe_int (nomark _))
      (pss_cons (ps_asg (pe_bm0 PySem.F.plainAttrs_list PySem.F.slot_list_pop PySem.F.type_list_pop mt_pop (pv 3)) (pg_tup rfl (pgs_cons (pg_name (i := 4) scToldB.nd rfl (Or.inl rfl)) (pgs_cons (pg_name (i := 5) scToldB.nd rfl (Or.inl rfl)) pgs_nil))))
      (pss_cons (ps_expr (pe_bm PySem.F.plainAttrs_list PySem.F.slot_list_extend PySem.F.type_list_extend mt_extend (pv 2) (pa_cons (pv 4) pa_nil)))
      (pss_one (ps_if (pt_cmpR op_ne (pv 5) (pe_gi T.none) (nomark _))
        (pss_one (ps_expr (pe_bm PySem.F.plainAttrs_list PySem.F.slot_list_extend PySem.F.type_list_extend mt_extend (pv 3) (pa_cons (pe_revL (pe_g GP hr pass0 (pa_cons (pe_ix ix_list (pe_fld (pv 0) rfl) (pv 5) (fun _ _ => rfl)) pa_nil))) pa_nil)))) pss_nil)))))
    (pss_one (ps_ret (pv 2))))), ?_⟩)
  · obtain ⟨ka, I, tb, A, n, m, bs, rfl, _⟩ := h
    rfl
  · obtain ⟨ka, I, tb, A, n, m0, bs, rfl, kat, tab, hem, hbs, k⟩ := h
    refine ⟨by decide, fun o ho => ?_⟩
    refine ⟨by decide, fun b0 hb0 => ⟨_, rfl, (by show 2 ≤ sizeLine; decide), fun t0 ht0 => ⟨(by show 1 ≤ sizeLine; decide), fun td htd => ?_⟩⟩⟩
    have sA : Same H (upd H o (.lst [])) := Same.new ho
    have sB : Same H (upd (upd H o (.lst [])) b0 (.lst [])) := sA.trans (Same.new hb0)
    have sC : Same H (upd (upd (upd H o (.lst [])) b0 (.lst [])) t0 (.tup [.ref b0, .int (n : Nat)])) := sB.trans (Same.new ht0)
    have ntd : H td = none := Same.none sC htd
    have nb0 : H b0 = none := Same.none sA hb0
    have e1 : (upd (upd (upd H o (.lst [])) b0 (.lst [])) t0 (.tup [.ref b0, .int (n : Nat)])) o = some (.lst []) := Same.new ht0 _ _ (Same.new hb0 _ _ upd_same)
    have e2 : (upd (upd (upd H o (.lst [])) b0 (.lst [])) t0 (.tup [.ref b0, .int (n : Nat)])) b0 = some (.lst []) := Same.new ht0 _ _ upd_same
    have otd : o ≠ td := ne_of_none e1 htd
    have b0td : b0 ≠ td := ne_of_none e2 htd
    have b0o : b0 ≠ o := Ne.symm (ne_of_none (upd_same (H := H) (a := o) (o := .lst [])) hb0)
    refine ⟨fun m σ H' => ∃ (st : List (Sw.Bytes × Option Nat)) (out rest : Sw.Bytes) (as : List Addr) (x y : Option V), σ = [some (.ref ka), some (.int (n : Nat)), some (.ref o), some (.ref td), x, y] ∧ Same H H' ∧ H' o = some (.lst (bV out)) ∧ H' td = some (.lst (as.map V.ref)) ∧
        Paired (PcAt (fun b => H b = none ∧ b ≠ o ∧ b ≠ td) H') st.reverse as ∧ Emits tb m st rest ∧ out ++ rest = bs ∧ ∀ p ∈ st.tail, p.1 ≠ [],
      ⟨m0, [([], some n)], [], bs, [t0], none, none, rfl, sC.trans (Same.new htd), Same.new htd _ _ e1, upd_same, .cons ⟨b0, Same.new htd _ _ upd_same, Same.new htd _ _ e2, nb0, b0o, b0td⟩ .nil, hem, rfl, by simp⟩, ?_⟩
    rintro m σ H1 ⟨st, out, rest, as, x, y, rfl, s1, h1o, h1t, pa, em, hcat, hne⟩
    have plen : as.length = st.length := by rw [← Paired.length pa, List.length_reverse]
    refine ⟨_, rfl, _, _, rfl, .inl ⟨_, SqL.of h1t, rfl⟩, _, _, rfl, rfl, _, rfl, ?_⟩
    rw [List.length_map, plen]
    refine idc (fun g => ?_) (fun g => ?_)
    · refine ⟨fun σ' H' => ∃ m', m' < m ∧ ∃ (st : List (Sw.Bytes × Option Nat)) (out rest : Sw.Bytes) (as : List Addr) (x y : Option V), σ' = [some (.ref ka), some (.int (n : Nat)), some (.ref o), some (.ref td), x, y] ∧ Same H H' ∧ H' o = some (.lst (bV out)) ∧ H' td = some (.lst (as.map V.ref)) ∧
        Paired (PcAt (fun b => H b = none ∧ b ≠ o ∧ b ≠ td) H') st.reverse as ∧ Emits tb m' st rest ∧ out ++ rest = bs ∧ ∀ p ∈ st.tail, p.1 ≠ [], fun _ _ h => h, ?_⟩
      cases st with
      | nil => exact absurd g (by decide)
      | cons p st =>
      obtain ⟨a, c⟩ := p
      rw [List.reverse_cons] at pa
      obtain ⟨bs1, t, rfl, pbs, b, ht, hb, nb, nbo, nbt⟩ := paired_snoc_inv pa
      rw [List.map_append, List.map_singleton] at h1t
      have nto : t ≠ td := ne_of ht h1t (fun z => nomatch z)
      refine ⟨_, rfl, .inl ⟨rfl, _, SqL.of h1t⟩, td, _, .ref t, rfl, rfl, h1t, ?_, ?_⟩
      · rw [List.length_append, List.length_singleton, Nat.add_sub_cancel, List.getElem?_append_right (Nat.le_refl _), Nat.sub_self]
        rfl
      rw [List.dropLast_concat]
      have s2 : Same H (upd H1 td (.lst (bs1.map V.ref))) := Same.w s1 ntd
      have ht2 : (upd H1 td (.lst (bs1.map V.ref))) t = some (.tup [.ref b, cV c]) := (upd_ne nto).trans ht
      have hb2 : (upd H1 td (.lst (bs1.map V.ref))) b = some (.lst (bV a)) := (upd_ne nbt).trans hb
      have ho2 : (upd H1 td (.lst (bs1.map V.ref))) o = some (.lst (bV out)) := (upd_ne otd).trans h1o
      have pbs2 : Paired (PcAt (fun b => H b = none ∧ b ≠ o ∧ b ≠ td) (upd H1 td (.lst (bs1.map V.ref)))) st.reverse bs1 := Paired.mapP pbs fun p q z => z.on (fun d u e he => by
        refine (upd_ne fun z => ?_).trans e
        rw [z, h1t] at e
        cases e
        rcases he with ⟨ys, he⟩ | he
        · cases he
        · exact he.2.2 z) fun _ h => h
      have td2 : (upd H1 td (.lst (bs1.map V.ref))) td = some (.lst (bs1.map V.ref)) := upd_same
      generalize upd H1 td (.lst (bs1.map V.ref)) = H2 at s2 ht2 hb2 ho2 pbs2 td2
      have sz : out.length + a.length ≤ 1000000 ∧ rest.length ≤ 1000000 := by
        have e := congrArg List.length hcat
        rw [List.length_append] at e
        have : a.length ≤ rest.length := by
          cases em with
          | stop h => rw [List.length_append]; omega
          | go h1 h2 => rw [List.length_append]; omega
        omega
      have hne' : ∀ p ∈ st, p.1 ≠ [] := hne
      refine ⟨t, _, rfl, SqT.of ht2, rfl, _, _, rfl, _, _, rfl, rfl, ?_⟩
      refine ⟨_, rfl, .inl ⟨rfl, _, SqL.of ho2⟩, _, rfl, o, b, _, _, rfl, rfl, ho2, hb2, by rw [bV_length, bV_length, sz_eq]; omega, ?_⟩
      rw [← bV_append]
      have s3 : Same H (upd H2 o (.lst (bV (out ++ a)))) := Same.w s2 ho
      have ho3 : (upd H2 o (.lst (bV (out ++ a)))) o = some (.lst (bV (out ++ a))) := upd_same
      have td3 : (upd H2 o (.lst (bV (out ++ a)))) td = some (.lst (bs1.map V.ref)) := (upd_ne (Ne.symm otd)).trans td2
      have pbs3 : Paired (PcAt (fun b => H b = none ∧ b ≠ o ∧ b ≠ td) (upd H2 o (.lst (bV (out ++ a))))) st.reverse bs1 := Paired.mapP pbs2 fun p q z => z.on (fun d u e he => by
        refine (upd_ne fun z => ?_).trans e
        rw [z, ho2] at e
        cases e
        rcases he with ⟨ys, he⟩ | he
        · cases he
        · exact he.2.1 z) fun _ h => h
      generalize upd H2 o (.lst (bV (out ++ a))) = H3 at s3 ho3 td3 pbs3
      refine ⟨_, rfl, (by cases c <;> rfl), _, rfl, ?_⟩
      cases c with
      | none =>
        cases em with
        | stop em' =>
          refine itf (by decide) ⟨_, Nat.lt_succ_self _, st, out ++ a, _, bs1, _, _, rfl, s3, ho3, td3, pbs3, em', by rw [List.append_assoc]; exact hcat, fun p hp => hne' p (List.mem_of_mem_tail hp)⟩
      | some i =>
        cases em with
        | go hr2 em' =>
          rename_i m' rest' r
          have ne : V.int (i : Nat) ≠ V.int (-1) := fun z => by have := V.int.inj z; omega
          have ne2 : cV (some i) ≠ V.int (-1) := ne
          refine itt (by rw [decide_eq_false ne2]; rfl) ?_
          have kat3 := kat.on s3
          obtain ⟨dx3, ek3⟩ := id kat3.obj
          obtain ⟨as3, er3, prd3⟩ := id kat3.rows
          obtain ⟨a1, ha1, hr1⟩ := paired_get prd3 hr2
          have la1 : (as3.map V.ref)[i]? = some (.ref a1) := by rw [List.getElem?_map, ha1]; rfl
          refine ⟨_, rfl, .inl ⟨rfl, _, SqL.of td3⟩, ?_⟩
          refine ⟨_, rfl, ka, CK, dx3, _, _, rfl, ek3, T.clK, T.kRows, kF_rows I, _, rfl, I.rl, _, _, _, rfl, rfl, SqL.of er3, at_of (j := i) rfl la1, ?_⟩
          refine ⟨a1, r, rfl, rowT_iff.mpr hr1, tab.rows _ (List.mem_of_getElem? hr2), fun H4 l ps s4 nl el pp => ⟨l, _, rfl, SqL.of el, fun q hq => ?_⟩⟩
          have td4 := s4 _ _ td3
          have td5 := (upd_ne (o := .lst ((ps.map V.ref).reverse)) (ne_of_none td4 hq)).trans td4
          have allne : ∀ p ∈ pieces r ++ st, p.1 ≠ [] := fun p hp => by
            rcases List.mem_append.mp hp with hp | hp
            · exact pieces_ne r p hp
            · exact hne' p hp
          have lenx := emits_len em' allne
          have r1 : rest'.length ≤ 1000000 := by
            have := sz.2
            rw [List.length_append] at this
            omega
          have lp := Paired.length pp
          have ls := Paired.length pbs
          rw [List.length_reverse] at ls
          rw [List.length_append] at lenx
          refine ⟨td, q, _, _, rfl, rfl, td5, upd_same, by rw [List.length_map, List.length_reverse, List.length_map, sz_eq]; omega, ?_⟩
          have qo : q ≠ td := Ne.symm (ne_of_none td4 hq)
          have s5 : Same H (upd H4 q (.lst ((ps.map V.ref).reverse))) := (s3.trans s4).trans (Same.new hq)
          have keep : ∀ (d : Addr) (u : HO), H4 d = some u → d ≠ td → (upd (upd H4 q (.lst ((ps.map V.ref).reverse))) td (.lst (bs1.map V.ref ++ (ps.map V.ref).reverse))) d = some u := fun d u e hd => by
            rw [upd_ne hd, upd_ne (ne_of_none e hq)]
            exact e
          refine ⟨m', Nat.lt_succ_self _, pieces r ++ st, out ++ a, rest', bs1 ++ ps.reverse, _, _, rfl, Same.w s5 ntd, keep _ _ (s4 _ _ ho3) otd, ?_, ?_, em', by rw [List.append_assoc]; exact hcat, fun p hp => allne p (List.mem_of_mem_tail hp)⟩
          · rw [upd_same, List.map_append, List.map_reverse]
          · rw [List.reverse_append]
            refine paired_append (Paired.mapP pbs3 fun p d z => z.on (fun d u e he => keep d u (s4 _ _ e) fun z => ?_) fun _ h => h) (paired_reverse (Paired.mapP pp fun p d z => z.on (fun d u e he => keep d u e fun z => ?_) fun d h => ⟨Same.none s3 h, fun z => ?_, fun z => ?_⟩))
            · rw [z, td3] at e
              cases e
              rcases he with ⟨ys, he⟩ | he
              · cases he
              · exact he.2.2 z
            · rw [z, td4] at e
              cases e
              rcases he with ⟨ys, he⟩ | he
              · cases he
              · rw [z, td3] at he; cases he
            · rw [z, ho3] at h; cases h
            · rw [z, td3] at h; cases h
    · have hst : st = [] := by
        cases st with
        | nil => rfl
        | cons p st =>
          rw [List.length_cons] at g
          exact absurd (show ((st.length + 1 : Nat) : Int) > 0 by omega) g
      subst hst
      cases em with
      | nil =>
        rw [List.append_nil] at hcat
        subst hcat
        exact ⟨_, rfl, k o H1 ho s1 h1o⟩
end
end Ag

set_option maxRecDepth 100000
set_option maxHeartbeats 2000000
namespace Ag
open PySem PySem.Spec PyProof.Rows L2
theorem TA.inv {CV : Addr} {D : Addr → Prop} {H : Hp} {t : PT} {a : Addr} (h : TA CV D H t a) : ∃ (i : VI) (ks : List Addr), VObj CV H a i ∧ i.tag = t.tag ∧ i.place = t.place ∧ H i.cl = some (.lst (bV t.codes)) ∧ H i.nl = some (.lst (nmV t.names)) ∧ H i.ml = some (.lst (ks.map V.ref)) ∧ TAs CV D H t.kids ks := by
  cases t with
  | mk tag place many codes names kids =>
    obtain ⟨i, ks, h1, h2, h3, h4, h5, h6, h7, _, _, _, _, h8⟩ := h
    exact ⟨i, ks, h1, h2, h3, h5, h6, h7, h8⟩
theorem TAs.get {CV : Addr} {D : Addr → Prop} {H : Hp} : ∀ {ts : List PT} {as : List Addr}, TAs CV D H ts as → ∀ {j : Nat} {u : PT}, ts[j]? = some u → ∃ b, as[j]? = some b ∧ TA CV D H u b
  | [], _, _, j, u, e => by simp at e
  | t :: r, _, ⟨a, as, rfl, h1, h2⟩, j, u, e => by
    cases j with
    | zero =>
      cases e
      exact ⟨a, rfl, h1⟩
    | succ j => exact TAs.get h2 (by simpa using e)
theorem TAs.pair {CV : Addr} {D : Addr → Prop} {H : Hp} : ∀ {ts : List PT} {as : List Addr}, TAs CV D H ts as → Paired (fun t a => TA CV D H t a) ts as
  | [], _, h => by rw [show _ = [] from h]; exact .nil
  | t :: r, _, ⟨a, as, rfl, h1, h2⟩ => .cons h1 (TAs.pair h2)
theorem TA.same {CV : Addr} {D : Addr → Prop} {H H' : Hp} {t : PT} {a : Addr} (h : TA CV D H t a) (s : Same H H') : TA CV D H' t a := TA.on (fun b o d e => ⟨s b o e, d⟩) t a h
theorem kid_at {t : PT} {j : Nat} {u : PT} (h : t.kids[j]? = some u) : kid t j = u := by
  unfold kid
  rw [List.getD_eq_getElem?_getD, h]
  rfl
theorem kids_at {t : PT} {j : Nat} (h : j < t.kids.length) : t.kids[j]? = some (kid t j) := by
  rw [List.getElem?_eq_getElem h]
  unfold kid
  rw [List.getD_eq_getElem?_getD, List.getElem?_eq_getElem h]
  rfl
theorem kid_cost {t : PT} {j : Nat} (h : j < t.kids.length) : (kid t j).cost ≤ t.cost := by
  have := cost_kid (t := t) (List.mem_of_getElem? (kids_at h))
  rw [PT.cost_eq t]
  omega
theorem WF.names {t : PT} (h : WF t) : (t.names.map (·.length)).sum + t.names.length ≤ 8192 := by
  have := h.cost
  rw [PT.cost_eq] at this
  omega
theorem WF.codes {t : PT} (h : t.cost ≤ 8192) : t.tag = 4 → t.codes.length ≤ 1000000 := fun h4 => by
  rw [PT.cost_eq, if_pos h4] at h
  omega
theorem sum_mem {l : List Nat} {x : Nat} (h : x ∈ l) : x ≤ l.sum := by
  induction l with
  | nil => cases h
  | cons a r ih =>
    rw [List.sum_cons]
    rcases List.mem_cons.mp h with rfl | h
    · omega
    · have := ih h
      omega
theorem names_len {t : PT} (h : t.cost ≤ 8192) : ∀ n ∈ t.names, n.length ≤ 1000000 := fun n hn => by
  have := sum_mem (List.mem_map.mpr ⟨n, hn, rfl⟩ : n.length ∈ t.names.map (·.length))
  rw [PT.cost_eq] at h
  omega
theorem bS_nothing : bS bNothing = "nothing" := by decide +kernel
theorem bS_inSort : bS (bIn ++ 44 :: bSort) = "in,sort" := by decide +kernel
theorem str_eq (a b : Sw.Bytes) : decide (V.str (bS a) = V.str (bS b)) = decide (a = b) := by
  by_cases h : a = b
  · rw [h]; simp
  · rw [decide_eq_false h]
    exact decide_eq_false fun z => h (bS_inj (V.str.inj z))
theorem pk_words : (pkList.map V.str) = ((wlK.map (·.1)).take 6).map fun b => V.str (bS b) := by decide +kernel
theorem inV_pk (b : Sw.Bytes) : inV (.str (bS b)) (pkList.map V.str) = decide (b ∈ (wlK.map (·.1)).take 6) := by
  rw [pk_words]
  unfold inV
  rw [List.any_map]
  induction (wlK.map (·.1)).take 6 with
  | nil => rfl
  | cons a r ih =>
    rw [List.any_cons, ih]
    show (bS a == bS b || decide (b ∈ r)) = decide (b ∈ a :: r)
    by_cases h : a = b
    · subst h; simp
    · have : (bS a == bS b) = false := beq_eq_false_iff_ne.mpr fun z => h (bS_inj z)
      rw [this]
      simp [Ne.symm h]
theorem wl_split (b : Sw.Bytes) : (wlK.map (·.1)).contains b = (decide (b ∈ (wlK.map (·.1)).take 6) || decide (b = bNothing)) := by
  have e : wlK.map (·.1) = (wlK.map (·.1)).take 6 ++ [bNothing] := by decide +kernel
  rw [Bool.eq_iff_iff, List.contains_iff_mem, Bool.or_eq_true, decide_eq_true_eq, decide_eq_true_eq]
  conv => lhs; rw [e]
  rw [List.mem_append, List.mem_singleton]
section
variable {P : Program} {w : World} {K : PySem.W.Frag} {mg : Str → Option Value} {base : Heap} {CB fB CV CC CK aKW aPK : Addr}
/-! ## is_told -/
def spIsTold (CV : Addr) : Sp := fun vs H Q _ => ∃ (a : Addr) (D : Addr → Prop) (t : PT), vs = [.ref a] ∧ TA CV D H t a ∧ WF t ∧ ∀ H', Same H H' → Q (.bl (isT t)) H'
theorem scIsTold : FnScope ["value", "word", "shape", "inner"] ["value"] (defScope sIsTold) := ⟨rfl, rfl, rfl, by decide +kernel, rfl, by decide +kernel, by decide +kernel⟩
theorem ok_isTold {f fW fS fN fA : Addr} {fd fdW fdS fdN fdA : FuncData} {psW psS psN psA : List Str} (T : Txt K mg CB fB CV CC CK aKW aPK) (F : Fun K "is_told" "is_told" sIsTold f fd)
    (GW : Gf P w K mg base CX0 3 "text_word" fW fdW psW (spTextWord K CV)) (GS : Gf P w K mg base CX0 1 "shape_of" fS fdS psS (spShapeOf K CV)) (GN : Gf P w K mg base CX0 1 "is_name" fN fdN psN spIsName) (GA : Gf P w K mg base CX0 2 "are_names" fA fdA psA (spAreNames K)) :
    FnOk P w K mg base CX0 4 f fd ["value"] (spIsTold CV) := by
  refine F.ok scIsTold (fun vs H Q E h => ?_) (fun cdv A outer s H vs Q E hr h => ⟨_,
    pss_cons (ps_if (pt_cmpR op_eq (pe_fld (pv 0) rfl) (pe_gi T.tTxt) (nomark _))
      (pss_cons (ps_set (i := 1) scIsTold.nd rfl (Or.inl rfl) (pe_g GW hr pass0 (pa_cons (pv 0) pa_nil)))
      (pss_one (ps_ret (pe_or (pe_cmpR op_in_seq (pv 1) (pe_gr T.pk) (by rfl)) (pe_one (pe_cmpR op_eq (pv 1) pe_str (nomark _))))))) pss_nil)
    (pss_cons (ps_set (i := 2) scIsTold.nd rfl (Or.inl rfl) (pe_g GS (hr.mono (by decide)) pass0 (pa_cons (pv 0) pa_nil)))
    (pss_cons (ps_if (pt_cmpR op_eq (pv 2) pe_str (nomark _))
      (pss_one (ps_ret (pe_and (pe_g GN (hr.mono (by decide)) pass0 (pa_cons (pe_g GW hr pass0 (pa_cons (pe_ix ix_list (pe_fld (pv 0) rfl) pe_int (fun _ _ => rfl)) pa_nil)) pa_nil))
        (pe_one (pe_g GN (hr.mono (by decide)) pass0 (pa_cons (pe_g GW hr pass0 (pa_cons (pe_ix ix_list (pe_fld (pv 0) rfl) pe_int (fun _ _ => rfl)) pa_nil)) pa_nil)))))) pss_nil)
    (pss_cons (ps_if (pt_cmpR op_eq (pv 2) pe_str (nomark _))
      (pss_cons (ps_set (i := 3) scIsTold.nd rfl (Or.inl rfl) (pe_ix ix_list (pe_fld (pv 0) rfl) pe_int (fun _ _ => rfl)))
      (pss_one (ps_ret (pe_and (pe_cmpR op_eq (pe_fld (pv 3) rfl) (pe_gi T.tRec) (nomark _)) (pe_one (pe_g GA (hr.mono (by decide)) pass0 (pa_cons (pe_fld (pv 3) rfl) pa_nil))))))) pss_nil)
    (pss_one (ps_ret (pe_cmpR op_eq (pv 2) pe_str (nomark _))))))), ?_⟩)
  · obtain ⟨a, D, t, rfl, _⟩ := h
    rfl
  · obtain ⟨a, D, t, rfl, ta, wf, k⟩ := h
    obtain ⟨i, ks, ⟨dx, ho⟩, e1, e2, hcl, hnl, hml, hks⟩ := ta.inv
    have klen := TAs.length hks
    refine ⟨_, rfl, a, CV, dx, _, _, rfl, ho, T.clV, T.vTag, vF_tag i, rfl, _, rfl, ?_⟩
    rw [e1]
    refine idc (fun c1 => ?_) (fun c1 => ?_)
    · have h4 : t.tag = 4 := by have := V.int.inj c1; omega
      refine ⟨_, rfl, a, i, t.codes, rfl, ⟨dx, ho⟩, SqL.of hcl, fun _ => WF.codes wf.cost h4, fun H1 s1 => ?_⟩
      refine ⟨_, rfl, aPK, _, rfl, .inr (T.pkT H1), rfl, by decide +kernel, _, rfl, ?_⟩
      show if inV (.str (bS (txw i.tag t.codes))) (pkList.map V.str) = true then _ else _
      have eis : isT t = (decide (txwT t ∈ (wlK.map (·.1)).take 6) || decide (txwT t = bNothing)) := by
        unfold isT
        rw [if_pos h4, wl_split]
      rw [e1, inV_pk]
      show if decide (txwT t ∈ _) = true then _ else _
      rw [eis] at k
      by_cases c2 : txwT t ∈ (wlK.map (·.1)).take 6
      · rw [decide_eq_true c2, Bool.true_or] at k
        exact itt (decide_eq_true c2) (k H1 s1)
      · rw [decide_eq_false c2, Bool.false_or] at k
        refine itf (decide_eq_false c2) ⟨_, rfl, rfl, ?_⟩
        rw [← bS_nothing]
        show Q (.bl (decide (V.str (bS (txwT t)) = V.str (bS bNothing)))) H1
        rw [str_eq]
        exact k H1 s1
    have h4 : t.tag ≠ 4 := fun z => c1 (by rw [z]; rfl)
    refine ⟨_, rfl, a, i, t.names, rfl, ⟨dx, ho⟩, SqL.of hnl, by have := wf.names; omega, ?_⟩
    rw [e1]
    have eis : isT t = if shpT t = bIn ++ 44 :: bSort then War.isName (txwT (kid t 0)) && War.isName (txwT (kid t 1)) else if shpT t = bRecord then decide ((kid t 0).tag = 6) && (kid t 0).names.all War.isName else decide (shpT t = bList) := if_neg h4
    -- a member's word
    have kidw : ∀ (j : Nat) (b : Addr) (Hx : Hp), j < t.kids.length → ks[j]? = some b → Same H Hx → ∃ i2, VObj CV Hx b i2 ∧ SqL K Hx i2.cl (bV (kid t j).codes) ∧ (i2.tag = 4 → (kid t j).codes.length ≤ 1000000) ∧ (txwT (kid t j)).length ≤ 1000000 ∧ txw i2.tag (kid t j).codes = txwT (kid t j) := fun j b Hx hj hb sx => by
      obtain ⟨b', hb', tk⟩ := TAs.get hks (kids_at hj)
      rw [hb] at hb'
      cases hb'
      obtain ⟨i2, ks2, ⟨dx2, ho2⟩, f1, f2, f3, f4, f5, f6⟩ := (tk.same sx).inv
      have kc := kid_cost hj
      have wc := wf.cost
      refine ⟨i2, ⟨dx2, ho2⟩, SqL.of f3, fun q => WF.codes (by omega) (f1 ▸ q), ?_, by rw [f1]; rfl⟩
      unfold txwT txw
      split
      · rename_i q
        rw [wd_length]
        omega
      · decide
    refine ⟨_, rfl, rfl, _, rfl, ?_⟩
    rw [← bS_inSort]
    show if decide (V.str (bS (shpT t)) = V.str (bS (bIn ++ 44 :: bSort))) = true then _ else _
    rw [str_eq]
    refine idc (fun c2 => ?_) (fun c2 => ?_)
    · rw [if_pos c2] at eis
      rw [eis] at k
      obtain ⟨t6, tn⟩ := shpT_sort.mp c2
      have l2 : t.kids.length = 2 := by rw [← wf.len t6, tn]; rfl
      have k2 : ks.length = 2 := by rw [klen, l2]
      have b0 : ks[0]? = some ks[0] := List.getElem?_eq_getElem (by omega)
      have b1 : ks[1]? = some ks[1] := List.getElem?_eq_getElem (by omega)
      have at_k : ∀ {j : Nat} {b : Addr}, ks[j]? = some b → (ks.map V.ref)[j]? = some (.ref b) := fun h => by rw [List.getElem?_map, h]; rfl
      refine ⟨_, rfl, a, CV, dx, _, _, rfl, ho, T.clV, T.vMembers, vF_members i, i.ml, _, _, _, rfl, rfl, SqL.of hml, at_of (j := 0) rfl (at_k b0), ?_⟩
      obtain ⟨i2, v1, v2, v3, v4, v5⟩ := kidw 0 _ H (by omega) b0 (Same.refl H)
      refine ⟨_, i2, _, rfl, v1, v2, v3, fun H1 s1 => ?_⟩
      rw [v5]
      refine ⟨txwT (kid t 0), rfl, v4, _, rfl, ?_⟩
      cases hc : War.isName (txwT (kid t 0)) with
      | false =>
        rw [hc, Bool.false_and] at k
        exact iteF (k H1 s1)
      | true =>
        rw [hc, Bool.true_and] at k
        refine iteT ⟨_, rfl, a, CV, dx, _, _, rfl, s1 _ _ ho, T.clV, T.vMembers, vF_members i, i.ml, _, _, _, rfl, rfl, SqL.of (s1 _ _ hml), at_of (j := 1) rfl (at_k b1), ?_⟩
        obtain ⟨i3, u1, u2, u3, u4, u5⟩ := kidw 1 _ H1 (by omega) b1 s1
        refine ⟨_, i3, _, rfl, u1, u2, u3, fun H2 s2 => ?_⟩
        rw [u5]
        exact ⟨txwT (kid t 1), rfl, u4, k H2 (s1.trans s2)⟩
    rw [if_neg c2] at eis
    refine ⟨_, rfl, rfl, _, rfl, ?_⟩
    rw [← bS_record]
    show if decide (V.str (bS (shpT t)) = V.str (bS bRecord)) = true then _ else _
    rw [str_eq]
    refine idc (fun c3 => ?_) (fun c3 => ?_)
    · rw [if_pos c3] at eis
      rw [eis] at k
      obtain ⟨t6, tn⟩ := shpT_record.mp c3
      have l1 : t.kids.length = 1 := by rw [← wf.len t6, tn]; rfl
      have k1 : ks.length = 1 := by rw [klen, l1]
      obtain ⟨b, hb, tk⟩ := TAs.get hks (kids_at (t := t) (j := 0) (by omega))
      obtain ⟨i2, ks2, ⟨dx2, ho2⟩, f1, f2, f3, f4, f5, f6⟩ := tk.inv
      have kc := kid_cost (t := t) (j := 0) (by omega)
      have wc := wf.cost
      refine ⟨_, rfl, a, CV, dx, _, _, rfl, ho, T.clV, T.vMembers, vF_members i, i.ml, _, _, _, rfl, rfl, SqL.of hml, at_of (j := 0) rfl (by rw [List.getElem?_map, hb]; rfl), ?_⟩
      refine ⟨_, rfl, b, CV, dx2, _, _, rfl, ho2, T.clV, T.vTag, vF_tag i2, rfl, _, rfl, ?_⟩
      rw [f1]
      by_cases c4 : (kid t 0).tag = 6
      · rw [decide_eq_true c4, Bool.true_and] at k
        refine itt (decide_eq_true (by rw [c4]; rfl)) ⟨_, rfl, b, CV, dx2, _, _, rfl, ho2, T.clV, T.vNames, vF_names i2, i2.nl, (kid t 0).names, rfl, SqL.of f4, names_len (by omega), k H (Same.refl H)⟩
      · rw [decide_eq_false c4, Bool.false_and] at k
        exact itf (decide_eq_false fun z => c4 (by have := V.int.inj z; omega)) (k H (Same.refl H))
    rw [if_neg c3] at eis
    rw [eis] at k
    refine ⟨_, rfl, rfl, ?_⟩
    rw [← bS_list]
    show Q (.bl (decide (V.str (bS (shpT t)) = V.str (bS bList)))) H
    rw [str_eq]
    exact k H (Same.refl H)
end
end Ag

set_option maxRecDepth 100000
set_option maxHeartbeats 2000000
namespace Ag
open PySem PySem.Spec PyProof.Rows L2
section
variable {P : Program} {w : World} {K : PySem.W.Frag} {mg : Str → Option Value} {base : Heap} {CB fB CV CC CK aKW aPK : Addr}
/-! ## told_members -/
def spMembers (CV : Addr) : Sp := fun vs H Q _ => ∃ (a : Addr) (D : Addr → Prop) (H0 : Hp) (t : PT), vs = [.ref a] ∧ Same H0 H ∧ TA CV D H0 t a ∧ WF t ∧ ∀ (H' : Hp) (l : Addr) (as : List Addr), Same H H' → H l = none → H' l = some (.lst (as.map V.ref)) → TAs CV D H0 (mem t) as → Q (.ref l) H'
theorem scMembers : FnScope ["value", "shape"] ["value"] (defScope sToldMembers) := ⟨rfl, rfl, rfl, by decide +kernel, rfl, by decide +kernel, by decide +kernel⟩
theorem ok_members {f fS : Addr} {fd fdS : FuncData} {psS : List Str} (T : Txt K mg CB fB CV CC CK aKW aPK) (F : Fun K "told_members" "told_members" sToldMembers f fd) (GS : Gf P w K mg base CX0 1 "shape_of" fS fdS psS (spShapeOf K CV)) : FnOk P w K mg base CX0 2 f fd ["value"] (spMembers CV) := by
  refine F.ok scMembers (fun vs H Q E h => ?_) (fun cdv A outer s H vs Q E hr h => ⟨_,
    pss_cons (ps_set (i := 1) scMembers.nd rfl (Or.inl rfl) (pe_g GS hr pass0 (pa_cons (pv 0) pa_nil)))
    (pss_cons (ps_if (pt_cmpR op_eq (pv 1) pe_str (nomark _)) (pss_one (ps_ret (pe_callTy call_list_of (by rfl) T.list (by decide +kernel) (pa_cons (pe_fld (pv 0) rfl) pa_nil)))) pss_nil)
    (pss_cons (ps_if (pt_cmpR op_eq (pv 1) pe_str (nomark _)) (pss_one (ps_ret (pe_callTy call_list_of (by rfl) T.list (by decide +kernel) (pa_cons (pe_fld (pe_ix ix_list (pe_fld (pv 0) rfl) pe_int (fun _ _ => rfl)) rfl) pa_nil)))) pss_nil)
    (pss_one (ps_ret (pe_lst pa_nil))))), ?_⟩)
  · obtain ⟨a, D, H0, t, rfl, _⟩ := h
    rfl
  · obtain ⟨a, D, H0, t, rfl, s0, ta, wf, k⟩ := h
    obtain ⟨i, ks, ⟨dx, ho0⟩, e1, e2, hcl, hnl, hml, hks⟩ := ta.inv
    have klen := TAs.length hks
    have ho := s0 _ _ ho0
    refine ⟨_, rfl, a, i, t.names, rfl, ⟨dx, ho⟩, SqL.of (s0 _ _ hnl), by have := wf.names; omega, ?_⟩
    rw [e1]
    refine ⟨_, rfl, rfl, _, rfl, ?_⟩
    rw [← bS_list]
    show if decide (V.str (bS (shpT t)) = V.str (bS bList)) = true then _ else _
    rw [str_eq]
    refine idc (fun c1 => ?_) (fun c1 => ?_)
    · have em : mem t = t.kids := if_pos c1
      rw [em] at k
      exact ⟨_, rfl, a, CV, dx, _, _, rfl, ho, T.clV, T.vMembers, vF_members i, i.ml, _, rfl, .inl (SqL.of (s0 _ _ hml)), fun l hl => k _ l ks (Same.new hl) hl upd_same hks⟩
    refine ⟨_, rfl, rfl, _, rfl, ?_⟩
    rw [← bS_record]
    show if decide (V.str (bS (shpT t)) = V.str (bS bRecord)) = true then _ else _
    rw [str_eq]
    refine idc (fun c2 => ?_) (fun c2 => ?_)
    · have em : mem t = (kid t 0).kids := by
        unfold mem
        rw [if_neg c1, if_pos c2]
      rw [em] at k
      obtain ⟨t6, tn⟩ := shpT_record.mp c2
      have l1 : t.kids.length = 1 := by rw [← wf.len t6, tn]; rfl
      obtain ⟨b, hb, tk⟩ := TAs.get hks (kids_at (t := t) (j := 0) (by omega))
      obtain ⟨i2, ks2, ⟨dx2, ho2⟩, f1, f2, f3, f4, f5, f6⟩ := tk.inv
      exact ⟨_, rfl, a, CV, dx, _, _, rfl, ho, T.clV, T.vMembers, vF_members i, i.ml, _, _, _, rfl, rfl, SqL.of (s0 _ _ hml), at_of (j := 0) rfl (by rw [List.getElem?_map, hb]; rfl), b, CV, dx2, _, _, rfl, s0 _ _ ho2, T.clV, T.vMembers, vF_members i2, i2.ml, _, rfl, .inl (SqL.of (s0 _ _ f5)), fun l hl => k _ l ks2 (Same.new hl) hl upd_same f6⟩
    have em : mem t = [] := by
      unfold mem
      rw [if_neg c1, if_neg c2]
    rw [em] at k
    exact ⟨by decide, fun l hl => k _ l [] (Same.new hl) hl upd_same rfl⟩
/-! ## told_row -/
def FdAt (kvs : List (Key × V)) (F : Fd) : Prop := ∀ p : Nat, valV kvs (Sum.inl (p : Int)) = (F p).map fun n => V.int (n : Nat)
def spRow (CV : Addr) : Sp := fun vs H Q _ => ∃ (a fd : Addr) (D : Addr → Prop) (t : PT) (kvs : List (Key × V)) (F : Fd), vs = [.ref a, .ref fd] ∧ TA CV D H t a ∧ WF t ∧ isT t = true ∧ H fd = some (.dK kvs) ∧ FdAt kvs F ∧ (∀ c ∈ mem t, (F c.place).isSome = true) ∧
  ∀ (H' : Hp) (q : Addr), Same H H' → RowT H' q (rowOf F t) → Q (.ref q) H'
theorem scRow : FnScope ["value", "found", "inner", "shape", "member"] ["value", "found"] (defScope sToldRow) := ⟨rfl, rfl, rfl, by decide +kernel, rfl, by decide +kernel, by decide +kernel⟩
theorem nm_names {ns : List Sw.Bytes} (h : ns.all War.isName = true) : nmV ns = txV ns := by
  unfold nmV txV
  refine List.map_congr_left fun n hn => ?_
  rw [wd_name (List.all_eq_true.mp h n hn)]
theorem costs_len : ∀ ks : List PT, ks.length ≤ costs ks
  | [] => Nat.zero_le _
  | k :: r => by
    have := costs_len r
    have : 1 ≤ k.cost := by rw [PT.cost_eq]; omega
    rw [costs, List.length_cons]
    omega
theorem mem_len {t : PT} (wf : WF t) : (mem t).length ≤ 8192 := by
  have h1 := costs_len t.kids
  have h2 := wf.cost
  have h3 := PT.cost_eq t
  unfold mem
  split
  · omega
  · split
    · rename_i c
      obtain ⟨t6, tn⟩ := shpT_record.mp c
      have l1 : t.kids.length = 1 := by rw [← wf.len t6, tn]; rfl
      have h4 := kid_cost (t := t) (j := 0) (by omega)
      have h5 := PT.cost_eq (kid t 0)
      have h6 := costs_len (kid t 0).kids
      omega
    · exact Nat.zero_le _
theorem ok_row {f fW fS fM : Addr} {fd fdW fdS fdM : FuncData} {psW psS psM : List Str} (T : Txt K mg CB fB CV CC CK aKW aPK) (F : Fun K "told_row" "told_row" sToldRow f fd)
    (GW : Gf P w K mg base CX0 3 "text_word" fW fdW psW (spTextWord K CV)) (GS : Gf P w K mg base CX0 1 "shape_of" fS fdS psS (spShapeOf K CV)) (GM : Gf P w K mg base CX0 2 "told_members" fM fdM psM (spMembers CV)) :
    FnOk P w K mg base CX0 4 f fd ["value", "found"] (spRow CV) := by
  refine F.ok scRow (fun vs H Q E h => ?_) (fun cdv A outer s H vs Q E hr h => ⟨_,
    pss_cons (ps_if (pt_cmpR op_eq (pe_fld (pv 0) rfl) (pe_gi T.tTxt) (nomark _)) (pss_one (ps_ret (pe_tup (pa_cons (pe_g GW hr pass0 (pa_cons (pv 0) pa_nil)) pa_nil)))) pss_nil)
    (pss_cons (ps_setLc (i := 2) (own := [("member", 4)]) (g := gName 4) (tt := tYes) (te := tDGet (tVar 1) (tFld K (tVar 4) "place")) rfl scRow.nd rfl rfl (sw_true rfl rfl rfl (by decide +kernel)) (pi_list (pe_g GM (hr.mono (by decide)) pass0 (pa_cons (pv 0) pa_nil))) (blkOk_by (own := [("member", 4)]) (N := ["value", "found", "inner", "shape", "member"]) (sc := defScope sToldRow) (by decide +kernel))
      (fun _ _ _ _ _ => pg_name (i := 4) scRow.nd rfl (Or.inl rfl)) (fun _ _ _ _ _ => pts_nil) (fun _ _ _ _ _ => by exact pe_dget (hu_of hr) (pv 1) (pe_fld (pv 4) rfl) (fun _ _ => rfl)))
    (pss_cons (ps_set (i := 3) scRow.nd rfl (Or.inl rfl) (pe_g GS (hr.mono (by decide)) pass0 (pa_cons (pv 0) pa_nil)))
    (pss_cons (ps_if (pt_cmpR op_eq (pv 3) pe_str (nomark _)) (pss_one (ps_ret (pe_tup (pa_cons pe_str (pa_cons (pe_ix ix_list (pv 2) pe_int (fun _ _ => rfl)) pa_nil))))) pss_nil)
    (pss_cons (ps_if (pt_cmpR op_eq (pv 3) pe_str (nomark _)) (pss_one (ps_ret (pe_tup (pa_cons pe_str (pa_cons (pe_tupleOf rfl T.tuple (pe_fld (pe_ix ix_list (pe_fld (pv 0) rfl) pe_int (fun _ _ => rfl)) rfl)) (pa_cons (pe_tupleOf rfl T.tuple (pv 2)) pa_nil)))))) pss_nil)
    (pss_one (ps_ret (pe_tup (pa_cons pe_str (pa_cons (pe_g GW hr pass0 (pa_cons (pe_ix ix_list (pe_fld (pv 0) rfl) pe_int (fun _ _ => rfl)) pa_nil)) (pa_cons (pe_g GW hr pass0 (pa_cons (pe_ix ix_list (pe_fld (pv 0) rfl) pe_int (fun _ _ => rfl)) pa_nil)) pa_nil)))))))))), ?_⟩)
  · obtain ⟨a, fd, D, t, kvs, F, rfl, _⟩ := h
    rfl
  · obtain ⟨a, fd, D, t, kvs, Fn, rfl, ta, wf, ist, hfd, fda, hm, k⟩ := h
    obtain ⟨i, ks, ⟨dx, ho⟩, e1, e2, hcl, hnl, hml, hks⟩ := ta.inv
    have klen := TAs.length hks
    refine ⟨_, rfl, a, CV, dx, _, _, rfl, ho, T.clV, T.vTag, vF_tag i, rfl, _, rfl, ?_⟩
    rw [e1]
    refine idc (fun c1 => ?_) (fun c1 => ?_)
    · have h4 : t.tag = 4 := by have := V.int.inj c1; omega
      refine ⟨_, rfl, a, i, t.codes, rfl, ⟨dx, ho⟩, SqL.of hcl, fun _ => WF.codes wf.cost h4, fun H1 s1 => ⟨(by show 1 ≤ sizeLine; decide), fun q hq => ?_⟩⟩
      have er : rowOf Fn t = .word (txwT t) := if_pos h4
      rw [er] at k
      rw [e1]
      exact k _ q (s1.trans (Same.new hq)) upd_same
    have h4 : t.tag ≠ 4 := fun z => c1 (by rw [z]; rfl)
    have er : rowOf Fn t = if shpT t = bList then .list ((inner Fn t).getD 0 0) else if shpT t = bRecord then .rcd (kid t 0).names (inner Fn t) else .sort (txwT (kid t 0)) (txwT (kid t 1)) := if_neg h4
    have eis : isT t = if shpT t = bIn ++ 44 :: bSort then War.isName (txwT (kid t 0)) && War.isName (txwT (kid t 1)) else if shpT t = bRecord then decide ((kid t 0).tag = 6) && (kid t 0).names.all War.isName else decide (shpT t = bList) := if_neg h4
    refine ⟨_, rfl, a, D, H, t, rfl, Same.refl H, ta, wf, fun H1 l ms s1 nl el tms => ?_⟩
    have mlen := TAs.length tms
    refine ⟨l, rfl, ⟨_, SqL.of el⟩, fun L hL => ?_⟩
    refine lc_it (walk_list (K := K) (a := l) (xs := ms.map V.ref)) (fun j H' => Same H1 H' ∧ H' L = some (.lst (inV2 ((inner Fn t).take j)))) ⟨Same.new hL, upd_same⟩ (fun j H' _ h => SqL.of (h.1 _ _ el)) ?_ ?_
    · rintro j x H2 H3 hj ⟨s2, h2⟩ ⟨rfl, hx⟩
      rw [List.getElem?_map] at hx
      obtain ⟨b, hb, rfl⟩ := Option.map_eq_some_iff.mp hx
      have hjl : j < (mem t).length := by rw [← mlen]; exact (List.getElem?_eq_some_iff.mp hb).1
      obtain ⟨b', hb', tk⟩ := TAs.get tms (List.getElem?_eq_getElem hjl)
      rw [hb] at hb'
      cases hb'
      obtain ⟨i2, ks2, ⟨dx2, ho2⟩, f1, f2, f3, f4, f5, f6⟩ := (tk.same (s1.trans s2)).inv
      obtain ⟨n, hn⟩ := Option.isSome_iff_exists.mp (hm _ (List.getElem_mem hjl))
      have hin : (inner Fn t)[j]? = some n := by
        unfold inner
        rw [List.getElem?_map, List.getElem?_eq_getElem hjl]
        show some ((Fn _).getD 0) = _
        rw [hn]
        rfl
      refine ⟨rfl, ⟨_, rfl, _, rfl, b, CV, dx2, _, _, rfl, ho2, T.clV, T.vPlace, vF_place i2, fd, .int (n : Nat), rfl, ?_, _, h2, ?_, fun c o e => ?_, ?_⟩⟩
      · rw [f2]
        have : valV kvs (Sum.inl (((mem t)[j]).place : Int)) = some (.int (n : Nat)) := by rw [fda, hn]; rfl
        rw [← this]
        exact DGet.k (k := Sum.inl (((mem t)[j]).place : Int)) ((s1.trans s2) _ _ hfd)
      · have := mem_len wf
        unfold inV2
        rw [List.length_map, List.length_take, sz_eq]
        unfold inner
        rw [List.length_map]
        omega
      · rw [upd_ne (ne_of_none e hL)]
        exact s2 c o e
      · rw [upd_same, take_more hin]
        unfold inV2
        rw [List.map_append]
        rfl
    · rintro H2 ⟨s2, h2⟩
      have hlen : (ms.map V.ref).length = (inner Fn t).length := by unfold inner; rw [List.length_map, List.length_map, mlen]
      rw [hlen, List.take_length] at h2
      have s12 : Same H H2 := s1.trans s2
      refine ⟨_, rfl, a, i, t.names, rfl, ⟨dx, s12 _ _ ho⟩, SqL.of (s12 _ _ hnl), by have := wf.names; omega, ?_⟩
      rw [e1]
      refine ⟨_, rfl, rfl, _, rfl, ?_⟩
      rw [← bS_list]
      show if decide (V.str (bS (shpT t)) = V.str (bS bList)) = true then _ else _
      rw [str_eq]
      refine idc (fun c2 => ?_) (fun c2 => ?_)
      · rw [if_pos c2] at er
        obtain ⟨t6, tn⟩ := shpT_list.mp c2
        have l1 : t.kids.length = 1 := by rw [← wf.len t6, tn]; rfl
        have em : mem t = t.kids := if_pos c2
        have hin : ∃ n rest, inner Fn t = n :: rest := by
          have : (inner Fn t).length = 1 := by unfold inner; rw [List.length_map, em, l1]
          cases q : inner Fn t with
          | nil => rw [q] at this; cases this
          | cons n rest => exact ⟨n, rest, rfl⟩
        obtain ⟨n, rest, hin⟩ := hin
        rw [hin] at er h2
        rw [er] at k
        refine ⟨_, rfl, L, _, _, _, rfl, rfl, SqL.of h2, at_of (j := 0) rfl rfl, (by show 2 ≤ sizeLine; decide), fun q hq => ?_⟩
        rw [bS_list]
        exact k _ q (s12.trans (Same.new hq)) upd_same
      rw [if_neg c2] at er
      refine ⟨_, rfl, rfl, _, rfl, ?_⟩
      rw [← bS_record]
      show if decide (V.str (bS (shpT t)) = V.str (bS bRecord)) = true then _ else _
      rw [str_eq]
      refine idc (fun c3 => ?_) (fun c3 => ?_)
      · rw [if_pos c3] at er
        rw [er] at k
        rw [if_neg (by rw [c3]; exact rec_ne_sort), if_pos c3, ist, eq_comm, Bool.and_eq_true] at eis
        obtain ⟨t6, tn⟩ := shpT_record.mp c3
        have l1 : t.kids.length = 1 := by rw [← wf.len t6, tn]; rfl
        obtain ⟨b, hb, tk⟩ := TAs.get hks (kids_at (t := t) (j := 0) (by omega))
        obtain ⟨i2, ks2, ⟨dx2, ho2⟩, f1, f2, f3, f4, f5, f6⟩ := (tk.same s12).inv
        rw [nm_names eis.2] at f4
        refine ⟨_, rfl, a, CV, dx, _, _, rfl, s12 _ _ ho, T.clV, T.vMembers, vF_members i, i.ml, _, _, _, rfl, rfl, SqL.of (s12 _ _ hml), at_of (j := 0) rfl (by rw [List.getElem?_map, hb]; rfl), b, CV, dx2, _, _, rfl, ho2, T.clV, T.vNames, vF_names i2, .inl ⟨i2.nl, _, rfl, SqL.of f4, fun u hu => ?_⟩⟩
        have h2u := (upd_ne (o := .tup (txV (kid t 0).names)) (ne_of_none h2 hu)).trans h2
        refine ⟨_, rfl, .inl ⟨L, _, rfl, SqL.of h2u, fun v hv => ⟨(by show 3 ≤ sizeLine; decide), fun q hq => ?_⟩⟩⟩
        rw [bS_record]
        refine k _ q (((s12.trans (Same.new hu)).trans (Same.new hv)).trans (Same.new hq)) ⟨u, v, upd_same, ?_, ?_⟩
        · exact Same.new hq _ _ (Same.new hv _ _ upd_same)
        · exact Same.new hq _ _ upd_same
      rw [if_neg c3] at er
      rw [er] at k
      have c4 : shpT t = bIn ++ 44 :: bSort := by
        by_cases q : shpT t = bIn ++ 44 :: bSort
        · exact q
        · rw [if_neg q, if_neg c3, ist, decide_eq_false c2] at eis
          cases eis
      obtain ⟨t6, tn⟩ := shpT_sort.mp c4
      have l2 : t.kids.length = 2 := by rw [← wf.len t6, tn]; rfl
      have wc := wf.cost
      have kidw : ∀ (j : Nat) (Hx : Hp), j < t.kids.length → Same H Hx → ∃ b i2, (ks.map V.ref)[j]? = some (.ref b) ∧ VObj CV Hx b i2 ∧ SqL K Hx i2.cl (bV (kid t j).codes) ∧ (i2.tag = 4 → (kid t j).codes.length ≤ 1000000) ∧ txw i2.tag (kid t j).codes = txwT (kid t j) := fun j Hx hj sx => by
        obtain ⟨b, hb, tk⟩ := TAs.get hks (kids_at hj)
        obtain ⟨i2, ks2, vo, f1, f2, f3, f4, f5, f6⟩ := (tk.same sx).inv
        have kc := kid_cost hj
        exact ⟨b, i2, by rw [List.getElem?_map, hb]; rfl, vo, SqL.of f3, fun q => WF.codes (by omega) (f1 ▸ q), by rw [f1]; rfl⟩
      obtain ⟨b, i2, v0, v1, v2, v3, v4⟩ := kidw 0 H2 (by omega) s12
      refine ⟨_, rfl, a, CV, dx, _, _, rfl, s12 _ _ ho, T.clV, T.vMembers, vF_members i, i.ml, _, _, _, rfl, rfl, SqL.of (s12 _ _ hml), at_of (j := 0) rfl v0, b, i2, _, rfl, v1, v2, v3, fun H3 s3 => ?_⟩
      rw [v4]
      have s13 := s12.trans s3
      obtain ⟨b', i3, u0, u1, u2, u3, u4⟩ := kidw 1 H3 (by omega) s13
      refine ⟨_, rfl, a, CV, dx, _, _, rfl, s13 _ _ ho, T.clV, T.vMembers, vF_members i, i.ml, _, _, _, rfl, rfl, SqL.of (s13 _ _ hml), at_of (j := 1) rfl u0, b', i3, _, rfl, u1, u2, u3, fun H4 s4 => ?_⟩
      rw [u4]
      exact ⟨(by show 3 ≤ sizeLine; decide), fun q hq => k _ q ((s13.trans s4).trans (Same.new hq)) upd_same⟩
end
end Ag

set_option maxRecDepth 100000
set_option maxHeartbeats 2000000
namespace Ag
open PySem PySem.Spec PyProof.Rows L2
theorem costs_reverse : ∀ l : List PT, costs l.reverse = costs l
  | [] => rfl
  | t :: r => by
    rw [List.reverse_cons, costs_append, costs_reverse r, costs, costs, costs]
    omega
theorem costs_mem (t : PT) : costs (mem t) + 1 ≤ t.cost := by
  rw [PT.cost_eq]
  unfold mem
  split
  · omega
  · split
    · by_cases h : 0 < t.kids.length
      · have h1 := cost_kid (t := t) (List.mem_of_getElem? (kids_at h))
        have h2 := PT.cost_eq (kid t 0)
        omega
      · have : kid t 0 = noPT := by
          unfold kid
          rw [List.getD_eq_getElem?_getD, List.getElem?_eq_none (by omega)]
          rfl
        rw [this]
        show costs [] + 1 ≤ _
        rw [costs]
        omega
    · rw [costs]
      omega
section
variable {P : Program} {w : World} {K : PySem.W.Frag} {mg : Str → Option Value} {base : Heap} {CB fB CV CC CK aKW aPK : Addr}
theorem KAt.offK {H : Hp} {ka : Addr} {i : KI} {T : List Rw} {A : Agd} {ta : Addr} {xs ys : List (Key × V)} (h : KAt P w CK H ka i T A) (e : H ta = some (.dK xs)) : KAt P w CK (upd H ta (.dK ys)) ka i T A := by
  obtain ⟨dx, h1⟩ := h.obj
  obtain ⟨as, h2, h3⟩ := h.rows
  obtain ⟨zs, h4, _⟩ := id h.num
  have tk : ∀ (b : Addr) (zs : List V), H b = some (.tup zs) → upd H ta (.dK ys) b = some (.tup zs) := fun b zs q => by
    rw [upd_ne (ne_of q e (fun z => nomatch z))]
    exact q
  exact ⟨⟨dx, (upd_ne (ne_of h1 e (fun z => nomatch z))).trans h1⟩, ⟨as, (upd_ne (ne_of h2 e (fun z => nomatch z))).trans h2, Paired.mapP h3 fun _ _ z => HV.on tk _ _ z⟩,
    h.num.on (fun o q => by rw [h4] at q; rw [upd_ne (ne_of h4 e (fun z => nomatch z)), h4]; exact q) tk, (upd_ne (ne_of h.agr e (fun z => nomatch z))).trans h.agr⟩
theorem FdAt.set {kvs : List (Key × V)} {F : Fd} {p n : Nat} (h : FdAt kvs F) : FdAt (putK kvs (Sum.inl (p : Int)) (.int (n : Nat))) (setF F p n) := fun q => by
  rw [valV_put]
  by_cases e : q = p
  · subst e
    rw [if_pos rfl, setF_same]
    rfl
  · rw [if_neg (fun z => e (by have := Sum.inl.inj z; omega)), setF_ne e]
    exact h q
/-! ## read_told -/
def spReadT (P : Program) (w : World) (CK CV : Addr) : Sp := fun vs H Q _ => ∃ (ka a : Addr) (I : KI) (T : List Rw) (A : Agd) (D : Addr → Prop) (t : PT) (m : Nat) (res : Option (List PT)), vs = [.ref ka, .ref a] ∧ KAt P w CK H ka I T A ∧ TA CV D H t a ∧ (∀ b, D b → b ≠ I.rl ∧ b ≠ I.nd) ∧ t.cost ≤ 8192 ∧ T.length ≤ 800000 ∧ Reads m [t] res ∧
  (res = none → ∀ H', KAt P w CK H' ka I T A → Kp [I.rl, I.nd] H H' → Q (.int (-1)) H') ∧
  (∀ ord, res = some ord → ∃ T' F' n, Nums ord.reverse T (fun _ => none) T' F' ∧ F' t.place = some n ∧ ∀ H', KAt P w CK H' ka I T' A → Kp [I.rl, I.nd] H H' → Q (.int (n : Nat)) H')
theorem scReadT : FnScope ["kinds", "value", "order", "todo", "one", "found"] ["kinds", "value"] (defScope sReadTold) := ⟨rfl, rfl, rfl, by decide +kernel, rfl, by decide +kernel, by decide +kernel⟩
theorem ok_readT {f fI fM fR fP : Addr} {fd fdI fdM fdR fdP : FuncData} {psI psM psR psP : List Str} (T : Txt K mg CB fB CV CC CK aKW aPK) (F : Fun K "read_told" "read_told" sReadTold f fd)
    (GI : Gf P w K mg base CX0 4 "is_told" fI fdI psI (spIsTold CV)) (GM : Gf P w K mg base CX0 2 "told_members" fM fdM psM (spMembers CV)) (GR : Gf P w K mg base CX0 4 "told_row" fR fdR psR (spRow CV)) (GP : Gm P w K mg base CK CX0 1 "put" fP fdP psP (spPut P w CK)) :
    FnOk P w K mg base CX0 5 f fd ["kinds", "value"] (spReadT P w CK CV) := by
  refine F.ok scReadT (fun vs H Q E h => ?_) (fun cdv A outer s H vs Q E hr h => ⟨_,
    pss_cons (ps_set (i := 2) scReadT.nd rfl (Or.inl rfl) (pe_lst pa_nil))
    (pss_cons (ps_set (i := 3) scReadT.nd rfl (Or.inl rfl) (pe_lst (pa_cons (pv 1) pa_nil)))
    (pss_cons (ps_while PassesOwn.never (pt_cmpR op_gt (pe_callB call_len (by rfl) T.len PySem.boot_len (pa_cons (pv 3) pa_nil)) pe_int (nomark _))
      (pss_cons (ps_set (i := 4) scReadT.nd rfl (Or.inl rfl) (pe_bm0 PySem.F.plainAttrs_list PySem.F.slot_list_pop PySem.F.type_list_pop mt_pop (pv 3)))
      (pss_cons (ps_if (pt_not (pt_val (pe_g GI hr pass0 (pa_cons (pv 4) pa_nil)))) (pss_one (ps_ret (pe_gi T.none))) pss_nil)
      (pss_cons (ps_expr (pe_bm PySem.F.plainAttrs_list PySem.F.slot_list_append PySem.F.type_list_append mt_append (pv 2) (pa_cons (pv 4) pa_nil)))
      (pss_one (ps_expr (pe_bm PySem.F.plainAttrs_list PySem.F.slot_list_extend PySem.F.type_list_extend mt_extend (pv 3) (pa_cons (pe_g GM (hr.mono (by decide)) pass0 (pa_cons (pv 4) pa_nil)) pa_nil))))))))
    (pss_cons (ps_set (i := 5) scReadT.nd rfl (Or.inl rfl) pe_dnewK)
    (pss_cons (ps_for PassesOwn.never rfl (pi_list (pe_revL (pv 2))) (pg_name (i := 4) scReadT.nd rfl (Or.inl rfl))
      (pss_one (ps_dput (hu_of hr) (pv 5) (pe_fld (pv 4) rfl) (pe_meth (pv 0) T.clK GP.M GP.F (hr.mono (by decide)) GP.b .nil pass0 (pa_cons (pe_g GR hr pass0 (pa_cons (pv 4) (pa_cons (pv 5) pa_nil))) pa_nil)) rfl)))
    (pss_one (ps_ret (pe_dget (hu_of hr) (pv 5) (pe_fld (pv 1) rfl) (fun _ _ => rfl)))))))), ?_⟩)
  · obtain ⟨ka, a, I, tb, A, D, t, m, res, rfl, _⟩ := h
    rfl
  · obtain ⟨ka, a, I, tb, A, D, t, m0, res, rfl, kat, hta, hD, hcost, htl, hrd, kn, ks⟩ := h
    refine ⟨by decide, fun o ho => ?_⟩
    refine ⟨_, rfl, (by show 1 ≤ sizeLine; decide), fun td htd => ?_⟩
    have sA : Same H (upd H o (.lst [])) := Same.new ho
    have ntd : H td = none := Same.none sA htd
    have otd : o ≠ td := ne_of_none upd_same htd
    obtain ⟨as0, er0, _⟩ := id kat.rows
    refine ⟨fun m σ H' => ∃ (st done : List PT) (oas tas : List Addr) (r : Option (List PT)) (x : Option V), σ = [some (.ref ka), some (.ref a), some (.ref o), some (.ref td), x, none] ∧ Same H H' ∧ H' o = some (.lst (oas.map V.ref)) ∧ H' td = some (.lst (tas.map V.ref)) ∧
        Paired (fun t a => TA CV D H t a) done oas ∧ Paired (fun t a => TA CV D H t a) st.reverse tas ∧ Reads m st r ∧ res = r.map (done ++ ·) ∧ done.length + costs st ≤ 8192,
      ⟨m0, [t], [], [], [a], res, none, rfl, sA.trans (Same.new htd), Same.new htd _ _ upd_same, upd_same, .nil, .cons hta .nil, hrd, by rw [map_nil_ord], by rw [costs, costs]; show 0 + (t.cost + 0) ≤ 8192; omega⟩, ?_⟩
    rintro m σ H1 ⟨st, done, oas, tas, r, x, rfl, s1, h1o, h1t, pdo, pst, rd, hres, hc⟩
    have tlen : tas.length = st.length := by rw [← Paired.length pst, List.length_reverse]
    have olen := Paired.length pdo
    refine ⟨_, rfl, _, _, rfl, .inl ⟨_, SqL.of h1t, rfl⟩, _, _, rfl, rfl, _, rfl, ?_⟩
    rw [List.length_map, tlen]
    refine idc (fun g => ?_) (fun g => ?_)
    · refine ⟨fun σ' H' => ∃ m', m' < m ∧ ∃ (st done : List PT) (oas tas : List Addr) (r : Option (List PT)) (x : Option V), σ' = [some (.ref ka), some (.ref a), some (.ref o), some (.ref td), x, none] ∧ Same H H' ∧ H' o = some (.lst (oas.map V.ref)) ∧ H' td = some (.lst (tas.map V.ref)) ∧
        Paired (fun t a => TA CV D H t a) done oas ∧ Paired (fun t a => TA CV D H t a) st.reverse tas ∧ Reads m' st r ∧ res = r.map (done ++ ·) ∧ done.length + costs st ≤ 8192, fun _ _ h => h, ?_⟩
      cases st with
      | nil => exact absurd g (by decide)
      | cons u st =>
      cases m with
      | zero => exact absurd rd.1 (by simp)
      | succ m =>
      obtain ⟨wf, rd⟩ := rd
      rw [List.reverse_cons] at pst
      obtain ⟨tas1, b, rfl, pst1, tu⟩ := paired_snoc_inv pst
      rw [List.map_append, List.map_singleton] at h1t
      refine ⟨_, rfl, .inl ⟨rfl, _, SqL.of h1t⟩, td, _, .ref b, rfl, rfl, h1t, ?_, ?_⟩
      · rw [List.length_append, List.length_singleton, Nat.add_sub_cancel, List.getElem?_append_right (Nat.le_refl _), Nat.sub_self]
        rfl
      rw [List.dropLast_concat]
      have s2 : Same H (upd H1 td (.lst (tas1.map V.ref))) := Same.w s1 ntd
      have ho2 : (upd H1 td (.lst (tas1.map V.ref))) o = some (.lst (oas.map V.ref)) := (upd_ne otd).trans h1o
      have td2 : (upd H1 td (.lst (tas1.map V.ref))) td = some (.lst (tas1.map V.ref)) := upd_same
      generalize upd H1 td (.lst (tas1.map V.ref)) = H2 at s2 ho2 td2
      refine ⟨_, rfl, b, D, u, rfl, tu.same s2, wf, fun H3 s3 => ⟨_, rfl, ?_⟩⟩
      have s13 := s2.trans s3
      rw [costs] at hc
      cases hi : isT u with
      | false =>
        rw [hi, if_neg Bool.false_ne_true] at rd
        rw [rd] at hres
        exact iteT (kn hres H3 (kat.on s13) (Kp.of s13))
      | true =>
        rw [hi, if_pos rfl] at rd
        obtain ⟨r', rd', er⟩ := rd
        have cm := costs_mem u
        have ho3 := s3 _ _ ho2
        have td3 := s3 _ _ td2
        refine iteF ⟨_, rfl, .inl ⟨rfl, _, SqL.of ho3⟩, _, rfl, o, _, _, rfl, rfl, ho3, by rw [List.length_map, ← olen, sz_eq]; omega, ?_⟩
        have s4 : Same H (upd H3 o (.lst (oas.map V.ref ++ [.ref b]))) := Same.w s13 ho
        have ho4 : (upd H3 o (.lst (oas.map V.ref ++ [.ref b]))) o = some (.lst (oas.map V.ref ++ [.ref b])) := upd_same
        have td4 : (upd H3 o (.lst (oas.map V.ref ++ [.ref b]))) td = some (.lst (tas1.map V.ref)) := (upd_ne (Ne.symm otd)).trans td3
        generalize upd H3 o (.lst (oas.map V.ref ++ [.ref b])) = H4 at s4 ho4 td4
        refine ⟨_, rfl, .inl ⟨rfl, _, SqL.of td4⟩, _, rfl, b, D, H, u, rfl, s4, tu, wf, fun H5 l ms s5 nl el tms => ?_⟩
        have cl := costs_len st
        have ml := mem_len wf
        have msl := TAs.length tms
        have tl1 := Paired.length pst1
        rw [List.length_reverse] at tl1
        refine ⟨td, l, _, _, rfl, rfl, s5 _ _ td4, el, by rw [List.length_map, List.length_map, ← tl1, msl, sz_eq]; omega, ?_⟩
        refine ⟨m, Nat.lt_succ_self _, (mem u).reverse ++ st, done ++ [u], oas ++ [b], tas1 ++ ms, r', _, rfl, Same.w (s4.trans s5) ntd, ?_, ?_, paired_snoc pdo tu, ?_, rd', ?_, ?_⟩
        · rw [upd_ne otd, List.map_append]
          exact s5 _ _ ho4
        · rw [upd_same, List.map_append]
        · rw [List.reverse_append, List.reverse_reverse]
          exact paired_append pst1 (TAs.pair tms)
        · rw [hres, er, Option.map_map]
          cases r' with
          | none => rfl
          | some z => show some (done ++ u :: z) = some (done ++ [u] ++ z); rw [List.append_assoc]; rfl
        · rw [List.length_append, List.length_singleton, costs_append, costs_reverse]
          omega
    · have hst : st = [] := by
        cases st with
        | nil => rfl
        | cons p st =>
          rw [List.length_cons] at g
          exact absurd (show ((st.length + 1 : Nat) : Int) > 0 by omega) g
      subst hst
      have hr1 : r = some [] := by
        cases m with
        | zero => exact rd.2
        | succ m => exact rd.elim
      rw [hr1] at hres
      have hres' : res = some done := by rw [hres]; show some (done ++ []) = _; rw [List.append_nil]
      obtain ⟨T', F', n, nums, hF, k⟩ := ks done hres'
      intro fd nfd
      have nfdH : H fd = none := Same.none s1 nfd
      have s2 : Same H (upd H1 fd (.dK [])) := s1.trans (Same.new nfd)
      have fd2 : (upd H1 fd (.dK [])) fd = some (.dK []) := upd_same
      have o2 := Same.new (o := .dK []) nfd _ _ h1o
      generalize upd H1 fd (.dK []) = H2 at s2 fd2 o2
      refine ⟨_, rfl, o, _, rfl, SqL.of o2, fun q hq => ⟨q, rfl, ⟨_, SqL.of upd_same⟩, ?_⟩⟩
      have nq : H q = none := Same.none s2 hq
      have fdq : fd ≠ q := ne_of_none fd2 hq
      have prv : Paired (fun t a => TA CV D H t a) done.reverse oas.reverse := paired_reverse pdo
      have tain : ∀ {H' : Hp} {u : PT} {b : Addr}, Kp [I.rl, I.nd] H H' → TA CV D H u b → TA CV D H' u b := fun kp tu => TA.on (fun c o d e => ⟨kp c o e fun z => by
        rcases List.mem_cons.mp z with z | z
        · exact (hD c d).1 z
        · exact (hD c d).2 (one_in z), d⟩) _ _ tu
      refine for_list (K := K) (a := q) (xs := (oas.map V.ref).reverse) (fun j σ H' => ∃ (T1 : List Rw) (F1 : Fd) (kvs : List (Key × V)) (x : Option V), σ = [some (.ref ka), some (.ref a), some (.ref o), some (.ref td), x, some (.ref fd)] ∧ KAt P w CK H' ka I T1 A ∧ H' fd = some (.dK kvs) ∧ kvs.length ≤ j ∧ FdAt kvs F1 ∧
          Nums (done.reverse.drop j) T1 F1 T' F' ∧ T1.length ≤ tb.length + j ∧ H' q = some (.lst (oas.map V.ref).reverse) ∧ Kp [I.rl, I.nd] H H')
        ⟨tb, fun _ => none, [], _, rfl, (kat.on s2).on (fun b o e => (upd_ne (ne_of_none e hq)).trans e), (upd_ne fdq).trans fd2, Nat.le_refl _, fun p => rfl, nums, Nat.le_refl _, upd_same, (Kp.of s2).new' hq⟩ (fun j σ H' _ ⟨_, _, _, _, _, _, _, _, _, _, _, h, _⟩ => SqL.of h) ?_ ?_
      · rintro j v σ H3 hv ⟨T1, F1, kvs, x3, rfl, kat3, hfd3, hkl, fda, nums3, hT1, hq3, kp3⟩
        rw [← List.map_reverse, List.getElem?_map] at hv
        obtain ⟨b, hb, rfl⟩ := Option.map_eq_some_iff.mp hv
        have hjl : j < done.reverse.length := by
          rw [Paired.length prv]
          exact (List.getElem?_eq_some_iff.mp hb).1
        obtain ⟨b', hb', tu⟩ := paired_get prv (List.getElem?_eq_getElem hjl)
        rw [hb] at hb'
        cases hb'
        rw [List.drop_eq_getElem_cons hjl] at nums3
        generalize hu : done.reverse[j] = u at nums3 tu
        have dl : done.length ≤ 8192 := by rw [costs] at hc; omega
        rw [List.length_reverse] at hjl
        cases nums3 with
        | cons wf ist hm rok nums4 =>
          obtain ⟨dx3, ek3⟩ := id kat3.obj
          refine ⟨_, rfl, ka, dx3, _, rfl, ek3, by rfl, _, rfl, _, rfl, b, fd, D, u, kvs, F1, rfl, tain kp3 tu, wf, ist, hfd3, fda, hm, fun H4 q4 s4 rt => ?_⟩
          refine ⟨ka, q4, I, T1, A, rowOf F1 u, rfl, kat3.on s4, rowT_iff.mp rt, by omega, fun H5 kat5 kp5 => ?_⟩
          have kp45 : Kp [I.rl, I.nd] H H5 := (kp3.trans (Kp.of s4)).trans kp5
          obtain ⟨i5, ks5, ⟨dx5, ho5⟩, f1, f2, f3, f4, f5, f6⟩ := (tain kp45 tu).inv
          obtain ⟨as4, er4, _⟩ := id (kat3.on s4).rows
          obtain ⟨zs4, en4, _⟩ := id (kat3.on s4).num
          have out : ∀ (c : Addr) (o : HO), H4 c = some o → (∀ xs, o ≠ .lst xs) → (∀ xs, o ≠ NDO P w I.nd xs) → H5 c = some o := fun c o e n1 n2 => kp5 c o e fun z => by
            rcases List.mem_cons.mp z with z | z
            · rw [z, er4] at e; cases e; exact n1 _ rfl
            · rw [one_in z, en4] at e; cases e; exact n2 _ rfl
          have hfd5 : H5 fd = some (.dK kvs) := out _ _ (s4 _ _ hfd3) (fun _ z => nomatch z) (fun _ z => nomatch z)
          have hq5 : H5 q = some (.lst (oas.map V.ref).reverse) := kp5 _ _ (s4 _ _ hq3) fun z => by
            rcases List.mem_cons.mp z with z | z
            · rw [← z, nq] at er0; cases er0
            · have e4 := s4 _ _ hq3
              rw [one_in z, en4] at e4
              cases e4
          refine ⟨_, rfl, _, rfl, b, CV, dx5, _, _, rfl, ho5, T.clV, T.vPlace, vF_place i5, fd, upd H5 fd (.dK (putK kvs (Sum.inl (u.place : Int)) (.int (putN T1 (rowOf F1 u) : Nat)))), rfl, (by rw [f2]; exact DPut.k (k := Sum.inl (u.place : Int)) hfd5 (by rw [sz_eq]; omega)), ?_⟩
          have pl := put_len T1 (rowOf F1 u)
          have kl := length_putK kvs (Sum.inl (u.place : Int)) (.int (putN T1 (rowOf F1 u) : Nat))
          exact ⟨_, _, _, _, rfl, kat5.offK hfd5, upd_same, by omega, fda.set, nums4, by omega, (upd_ne (Ne.symm fdq)).trans hq5, kp45.wnew nfdH⟩
      · rintro σ H3 ⟨T1, F1, kvs, x3, rfl, kat3, hfd3, hkl, fda, nums3, hT1, hq3, kp3⟩
        rw [List.drop_eq_nil_of_le (by rw [List.length_reverse, List.length_reverse, List.length_map, olen]; exact Nat.le_refl _)] at nums3
        cases nums3
        obtain ⟨i3, ks3, ⟨dx3, ho3⟩, f1, f2, f3, f4, f5, f6⟩ := (tain kp3 hta).inv
        refine ⟨_, rfl, _, rfl, a, CV, dx3, _, _, rfl, ho3, T.clV, T.vPlace, vF_place i3, fd, .int (n : Nat), rfl, ?_, k H3 kat3 kp3⟩
        rw [f2]
        have : valV kvs (Sum.inl (t.place : Int)) = some (.int (n : Nat)) := by rw [fda, hF]; rfl
        rw [← this]
        exact DGet.k (k := Sum.inl (t.place : Int)) hfd3
end
end Ag

set_option maxRecDepth 100000
set_option maxHeartbeats 2000000
namespace Ag
open PySem PySem.Spec PyProof.Rows L2
/-! # agree -/
/-- what's answered -/
def agL (a b : Sw.Bytes) : List Int := ProgramsNeutral.told (Programs.answer (.agree a b))
theorem agL_eq {a b : Sw.Bytes} (ha : a.length ≤ 8192) (hb : b.length ≤ 8192) : agL a b = ProgramsNeutral.told (match Sw.decode a, Sw.decode b with
    | .ok v, .ok w => (match War.toldKind v, War.toldKind w with
      | some x, some y => (match x.agree y with
        | some k => Programs.gives k.told.enc
        | none => Programs.num (-9))
      | _, _ => Programs.num (-5))
    | _, _ => Programs.num (-6)) := by
  unfold agL
  have : ¬ (Sw.MOST < a.length ∨ Sw.MOST < b.length) := by unfold Sw.MOST; omega
  simp only [Programs.answer]
  rw [if_neg this]
  rfl
theorem told_num (z : Int) : ProgramsNeutral.told (Programs.num z) = [z] := rfl
theorem told_gives (b : Sw.Bytes) : ProgramsNeutral.told (Programs.gives b) = 0 :: b.map fun (c : UInt8) => ((c.toNat : Nat) : Int) := by
  unfold ProgramsNeutral.told Programs.gives
  simp
theorem gives_V (b : Sw.Bytes) : (0 :: b.map fun (c : UInt8) => ((c.toNat : Nat) : Int)).map V.int = [V.int 0] ++ bV b := by
  unfold bV
  rw [List.map_cons, List.map_map]
  rfl
/-- what was read of bytes -/
def RelD (a : Sw.Bytes) : Option PT → Prop
  | none => ∃ e, Sw.decode a = .error e
  | some t => ∃ v, Sw.decode a = .ok v ∧ VR v t ∧ t.cost ≤ a.length ∧ t.places.Pairwise (· < ·)
theorem reld (a : Sw.Bytes) : ∃ o, Decoded a o ∧ RelD a o := by
  rcases decode_spec a with ⟨v, t, h1, h2, h3, h4, _, h6⟩ | ⟨⟨e, h1⟩, h2⟩
  · exact ⟨some t, h2, v, h1, h3, h4, h6⟩
  · exact ⟨none, h2, e, h1⟩
/-- a told kind's two loops -/
inductive Rd2 (v : Sw.Value) (t : PT) : Prop
  | no (h : War.toldKind v = none) (m : Nat) (r : Reads m [t] none) : Rd2 v t
  | yes (x : Wk) (ord : List PT) (m : Nat) (h : War.toldKind v = some x) (r : Reads m [t] (some ord)) (ok : TOk t x ord) : Rd2 v t
theorem rd2 {v : Sw.Value} {t : PT} (h : VR v t) (hc : t.cost ≤ 8192) : Rd2 v t := by
  have tv := told_value h hc
  unfold TV at tv
  cases q : War.toldKind v with
  | none =>
    rw [q] at tv
    obtain ⟨m, hm⟩ := tv []
    exact .no q m hm
  | some x =>
    rw [q] at tv
    obtain ⟨ord, ok⟩ := tv
    obtain ⟨m, hm⟩ := ok.reads 0 [] (some []) ⟨rfl, rfl⟩
    have hm' : Reads m [t] (some (ord ++ [])) := hm
    rw [List.append_nil] at hm'
    exact .yes x ord m q hm' ok
section
variable {P : Program} {w : World} {K : PySem.W.Frag} {mg : Str → Option Value} {base : Heap} {CB fB CV CC CK aKW aPK : Addr}
def spAgree (K : PySem.W.Frag) : Sp := fun vs H Q _ => ∃ (aa ba : Addr) (a b : Sw.Bytes), vs = [.ref aa, .ref ba] ∧ SqL K H aa (bV a) ∧ SqL K H ba (bV b) ∧ a.length ≤ 8192 ∧ b.length ≤ 8192 ∧ ∀ (H' : Hp) (l : Addr), H' l = some (.lst ((agL a b).map V.int)) → Q (.ref l) H'
theorem scAgree : FnScope ["a", "b", "left", "right", "kinds", "one", "two", "both"] ["a", "b"] (defScope sAgree) := ⟨rfl, rfl, rfl, by decide +kernel, rfl, by decide +kernel, by decide +kernel⟩
theorem ok_agree {f fV fI fR fC fT : Addr} {fd fdV fdI fdR fdC fdT : FuncData} {psV psR psC psT : List Str} (T : Txt K mg CB fB CV CC CK aKW aPK) (F : Fun K "agree" "agree" sAgree f fd)
    (GV : Gf P w K mg base CX0 8 "value_or_none" fV fdV psV (spVal K CV)) (M : Mk K CK fI) (GI : FnOk P w K mg base CX0 2 fI fdI ["self"] (spKInit P w CK)) (bI : Binds K fdI ["self"] [])
    (GR : Gf P w K mg base CX0 5 "read_told" fR fdR psR (spReadT P w CK CV)) (GC : Gm P w K mg base CK CX0 3 "common" fC fdC psC (spCommon P w CK)) (GT : Gf P w K mg base CX0 5 "told_bytes" fT fdT psT (spToldB P w CK)) :
    FnOk P w K mg base CX0 9 f fd ["a", "b"] (spAgree K) := by
  refine F.ok scAgree (fun vs H Q E h => ?_) (fun cdv A outer s H vs Q E hr h => ⟨_,
    pss_cons (ps_if (PW.pt (pw_or (pt_cmpR op_gt (pe_callB call_len (by rfl) T.len PySem.boot_len (pa_cons (pv 0) pa_nil)) (pe_gi T.lVal) (nomark _)) (pw_or1 (pt_cmpR op_gt (pe_callB call_len (by rfl) T.len PySem.boot_len (pa_cons (pv 1) pa_nil)) (pe_gi T.lVal) (nomark _)))))
      (pss_one (ps_ret (pe_lst (pa_cons (pe_gi T.tooLong) pa_nil)))) pss_nil)
    (pss_cons (ps_set (i := 2) scAgree.nd rfl (Or.inl rfl) (pe_g GV hr pass0 (pa_cons (pv 0) pa_nil)))
    (pss_cons (ps_set (i := 3) scAgree.nd rfl (Or.inl rfl) (pe_g GV hr pass0 (pa_cons (pv 1) pa_nil)))
    (pss_cons (ps_if (PW.pt (pw_or (pt_cmpR op_isN (pv 2) pe_non (nomark _)) (pw_or1 (pt_cmpR op_isN (pv 3) pe_non (nomark _))))) (pss_one (ps_ret (pe_lst (pa_cons (pe_gi T.notTaken) pa_nil)))) pss_nil)
    (pss_cons (ps_set (i := 4) scAgree.nd rfl (Or.inl rfl) (pe_make0 M GI (hr.mono (by decide)) rfl T.gK bI .nil pass0))
    (pss_cons (ps_set (i := 5) scAgree.nd rfl (Or.inl rfl) (pe_g GR (hr.mono (by decide)) pass0 (pa_cons (pv 4) (pa_cons (pv 2) pa_nil))))
    (pss_cons (ps_set (i := 6) scAgree.nd rfl (Or.inl rfl) (pe_g GR (hr.mono (by decide)) pass0 (pa_cons (pv 4) (pa_cons (pv 3) pa_nil))))
    (pss_cons (ps_if (PW.pt (pw_or (pt_cmpR op_eq (pv 5) (pe_gi T.none) (nomark _)) (pw_or1 (pt_cmpR op_eq (pv 6) (pe_gi T.none) (nomark _))))) (pss_one (ps_ret (pe_lst (pa_cons (pe_gi T.notTold) pa_nil)))) pss_nil)
    (pss_cons (ps_set (i := 7) scAgree.nd rfl (Or.inl rfl) (pe_meth (pv 4) T.clK GC.M GC.F (hr.mono (by decide)) GC.b .nil pass0 (pa_cons (pv 5) (pa_cons (pv 6) pa_nil))))
    (pss_cons (ps_if (pt_cmpR op_eq (pv 7) (pe_gi T.none) (nomark _)) (pss_one (ps_ret (pe_lst (pa_cons (pe_gi T.notAgreed) pa_nil)))) pss_nil)
    (pss_one (ps_ret (pe_op op_cat (pe_lst (pa_cons pe_int pa_nil)) (pe_g GT (hr.mono (by decide)) pass0 (pa_cons (pv 4) (pa_cons (pv 7) pa_nil))))))))))))))), ?_⟩)
  · obtain ⟨aa, ba, a, b, rfl, _⟩ := h
    rfl
  · obtain ⟨aa, ba, a, b, rfl, hqa, hqb, hla, hlb, k⟩ := h
    have ae := agL_eq hla hlb
    refine ⟨_, rfl, _, _, rfl, .inl ⟨_, hqa, rfl⟩, _, _, rfl, rfl, _, rfl, ?_⟩
    rw [bV_length]
    refine itf (decide_eq_false (by omega)) ⟨_, rfl, _, _, rfl, .inl ⟨_, hqb, rfl⟩, _, _, rfl, rfl, _, rfl, ?_⟩
    rw [bV_length]
    refine itf (decide_eq_false (by omega)) ?_
    obtain ⟨oa, da, ra⟩ := reld a
    obtain ⟨ob, db, rb⟩ := reld b
    have ans : ∀ {H' : Hp} {z : Int}, agL a b = [z] → ∀ l, H' l = none → Q (.ref l) (upd H' l (.lst [.int z])) := fun e l hl => k _ l (by rw [upd_same, e]; rfl)
    have sq : ∀ {H' : Hp} {c : Addr} {xs : List V}, Same H H' → SqL K H c xs → SqL K H' c xs := fun s h => Kp.seq (S := []) (Kp.of s) h (by simp)
    have err1 : oa = none → agL a b = [-6] := fun e => by
      subst e
      obtain ⟨e, he⟩ := ra
      rw [ae, he]
      rfl
    have err2 : ob = none → agL a b = [-6] := fun e => by
      subst e
      obtain ⟨e, he⟩ := rb
      rw [ae, he]
      cases Sw.decode a <;> rfl
    refine ⟨_, rfl, aa, a, oa, rfl, hqa, hla, da, fun e1 H1 s1 => ?_, fun t1 e1 H1 la ta1 s1 => ?_⟩
    · refine ⟨_, rfl, ba, b, ob, rfl, sq s1 hqb, hlb, db, fun e2 H2 s2 => ?_, fun t2 e2 H2 lb tb2 s2 => ?_⟩
      · exact ⟨_, rfl, rfl, _, rfl, itt (by decide) ⟨by decide, ans (err1 e1)⟩⟩
      · exact ⟨_, rfl, rfl, _, rfl, itt (by decide) ⟨by decide, ans (err1 e1)⟩⟩
    refine ⟨_, rfl, ba, b, ob, rfl, sq s1 hqb, hlb, db, fun e2 H2 s2 => ?_, fun t2 e2 H2 lb tb2 s2 => ?_⟩
    · exact ⟨_, rfl, rfl, _, rfl, itf (decide_eq_false fun z => nomatch z) ⟨_, rfl, rfl, _, rfl, itt (by decide) ⟨by decide, ans (err2 e2)⟩⟩⟩
    refine ⟨_, rfl, rfl, _, rfl, itf (by simp) ⟨_, rfl, rfl, _, rfl, itf (by simp) ?_⟩⟩
    subst e1 e2
    obtain ⟨v1, dv1, vr1, c1, pw1⟩ := ra
    obtain ⟨v2, dv2, vr2, c2, pw2⟩ := rb
    rw [dv1, dv2] at ae
    have ae : agL a b = ProgramsNeutral.told (match War.toldKind v1, War.toldKind v2 with
      | some x, some y => (match x.agree y with
        | some k => Programs.gives k.told.enc
        | none => Programs.num (-9))
      | _, _ => Programs.num (-5)) := ae
    intro x dx nx ndx nex
    refine ⟨x, dx, rfl, upd_same, fun I H3 kat new k3 => ⟨rfl, ?_⟩⟩
    have tr : ∀ {c : Addr} {o : HO}, H2 c = some o → H3 c = some o ∧ (c ≠ I.rl ∧ c ≠ I.nd) := fun {c o} e => by
      have n1 := ne_of_none e nx
      have n2 := ne_of_none e ndx
      have e2 : (upd (upd H2 dx (.own x)) x (.ins CK dx [])) c = some o := by rw [upd_ne n1, upd_ne n2]; exact e
      refine ⟨k3 _ _ e2 fun z => n1 (one_in z), fun z => ?_, fun z => ?_⟩
      · have := new I.rl (by simp)
        rw [← z, e2] at this
        cases this
      · have := new I.nd (by simp)
        rw [← z, e2] at this
        cases this
    have tl3 : TA CV (fun c => c ≠ I.rl ∧ c ≠ I.nd) H3 t1 la := TA.on (fun c o _ e => tr (s2 _ _ e)) _ _ ta1
    have tr3 : TA CV (fun c => c ≠ I.rl ∧ c ≠ I.nd) H3 t2 lb := TA.on (fun c o _ e => tr e) _ _ tb2
    have on4 : ∀ {H4 : Hp} {t : PT} {q : Addr}, Kp [I.rl, I.nd] H3 H4 → TA CV (fun c => c ≠ I.rl ∧ c ≠ I.nd) H3 t q → TA CV (fun c => c ≠ I.rl ∧ c ≠ I.nd) H4 t q := fun kp h => TA.on (fun c o d e => ⟨kp c o e fun z => by
      rcases List.mem_cons.mp z with z | z
      · exact d.1 z
      · exact d.2 (one_in z), d⟩) _ _ h
    have l0 : T0.length ≤ 800000 := by rw [T0_len]; decide
    rcases rd2 vr1 (by omega) with ⟨h1, m1, r1⟩ | ⟨x1, ord1, m1, h1, r1, ok1⟩
    · have a5 : agL a b = [-5] := by
        rw [ae, h1]
        cases War.toldKind v2 <;> rfl
      refine ⟨_, rfl, _, rfl, x, la, I, T0, [], _, t1, m1, none, rfl, kat, tl3, fun _ h => h, by omega, l0, r1, fun _ H4 kat4 kp4 => ?_, fun _ z => nomatch z⟩
      rcases rd2 vr2 (by omega) with ⟨h2, m2, r2⟩ | ⟨x2, ord2, m2, h2, r2, ok2⟩
      · refine ⟨_, rfl, _, rfl, x, lb, I, T0, [], _, t2, m2, none, rfl, kat4, on4 kp4 tr3, fun _ h => h, by omega, l0, r2, fun _ H5 kat5 kp5 => ?_, fun _ z => nomatch z⟩
        exact ⟨_, rfl, rfl, _, rfl, itt (by decide) ⟨by decide, ans a5⟩⟩
      · obtain ⟨T2, F2, g1, g2, g3, g4, ⟨n2, g5, g6⟩, g7⟩ := ok2.nums T0 (fun _ => none) T0_tab pw2
        refine ⟨_, rfl, _, rfl, x, lb, I, T0, [], _, t2, m2, some ord2, rfl, kat4, on4 kp4 tr3, fun _ h => h, by omega, l0, r2, (fun z => nomatch z), fun ord z => ?_⟩
        cases z
        exact ⟨T2, F2, n2, g1, g5, fun H5 kat5 kp5 => ⟨_, rfl, rfl, _, rfl, itt (by decide) ⟨by decide, ans a5⟩⟩⟩
    obtain ⟨T1, F1, p1, p2, p3, p4, ⟨n1, p5, p6⟩, p7⟩ := ok1.nums T0 (fun _ => none) T0_tab pw1
    refine ⟨_, rfl, _, rfl, x, la, I, T0, [], _, t1, m1, some ord1, rfl, kat, tl3, fun _ h => h, by omega, l0, r1, (fun z => nomatch z), fun ord z => ?_⟩
    cases z
    refine ⟨T1, F1, n1, p1, p5, fun H4 kat4 kp4 => ?_⟩
    have ol1 := ok1.len
    rw [T0_len] at p4
    have neg : ∀ n : Nat, decide (V.int (n : Nat) = V.int (-1)) = false := fun n => decide_eq_false fun z => by have := V.int.inj z; omega
    rcases rd2 vr2 (by omega) with ⟨h2, m2, r2⟩ | ⟨x2, ord2, m2, h2, r2, ok2⟩
    · have a5 : agL a b = [-5] := by
        rw [ae, h1, h2]
        rfl
      refine ⟨_, rfl, _, rfl, x, lb, I, T1, [], _, t2, m2, none, rfl, kat4, on4 kp4 tr3, fun _ h => h, by omega, by omega, r2, fun _ H5 kat5 kp5 => ?_, fun _ z => nomatch z⟩
      exact ⟨_, rfl, rfl, _, rfl, itf (neg n1) ⟨_, rfl, rfl, _, rfl, itt (by decide) ⟨by decide, ans a5⟩⟩⟩
    obtain ⟨T2, F2, g1, g2, g3, g4, ⟨n2, g5, g6⟩, g7⟩ := ok2.nums T1 (fun _ => none) p2 pw2
    have ol2 := ok2.len
    refine ⟨_, rfl, _, rfl, x, lb, I, T1, [], _, t2, m2, some ord2, rfl, kat4, on4 kp4 tr3, fun _ h => h, by omega, by omega, r2, (fun z => nomatch z), fun ord z => ?_⟩
    cases z
    refine ⟨T2, F2, n2, g1, g5, fun H5 kat5 kp5 => ?_⟩
    rw [h1, h2] at ae
    have sz1 := ok1.sz
    have good2 : Good T2 [] := ⟨g2, fun p c h => nomatch h⟩
    obtain ⟨T', A', ran, hk⟩ := pair_ends 500000 x1 good2 (p6.mono g3) g6 [] (by show 0 + size x1 ≤ 500000; omega) (by omega) (by show 0 + size x1 < 500000; omega)
    obtain ⟨c, hc⟩ := Option.isSome_iff_exists.mp hk
    obtain ⟨mm, goes⟩ := ran.goes
    have rt := (ran.good.right _ _ hc).1 x1 x2 ((p6.mono g3).mono ran.pre) (g6.mono ran.pre)
    obtain ⟨dx5, ek5⟩ := id kat5.obj
    refine ⟨_, rfl, rfl, _, rfl, itf (neg n1) ⟨_, rfl, rfl, _, rfl, itf (neg n2) ?_⟩⟩
    refine ⟨_, rfl, x, dx5, _, rfl, ek5, by rfl, _, rfl, _, rfl, x, I, T2, [], n1, n2, 500000, mm, T', A', c, rfl, kat5, by decide, goes, hc, fun H6 kat6 kp6 => ?_⟩
    cases c with
    | none =>
      have a9 : agL a b = [-9] := by
        have rt' : x1.agree x2 = none := rt
        rw [ae]
        simp only [rt']
        rfl
      exact ⟨_, rfl, rfl, _, rfl, itt (by decide) ⟨by decide, ans a9⟩⟩
    | some n =>
      obtain ⟨kk, hkk, dk⟩ := rt
      have a0 : agL a b = 0 :: kk.told.enc.map fun (c : UInt8) => ((c.toNat : Nat) : Int) := by
        rw [ae]
        simp only [hkk]
        exact told_gives _
      obtain ⟨me, em⟩ := den_emits ran.good.tab dk [] .nil
      rw [List.nil_append, List.append_nil] at em
      have el := agree_enc x1 x2 hkk
      have el1 := ok1.enc
      have el2 := ok2.enc
      refine ⟨_, rfl, rfl, _, rfl, itf (neg n) ⟨by decide, fun l hl => ?_⟩⟩
      have kat7 := kat6.on (H' := upd H6 l (.lst [.int 0])) fun c o e => (upd_ne (ne_of_none e hl)).trans e
      refine ⟨_, rfl, _, rfl, x, I, T', A', n, me, kk.told.enc, rfl, kat7, ran.good.tab, em, by omega, fun p H8 hp s8 e8 => ⟨l, p, _, _, rfl, rfl, s8 _ _ upd_same, e8, ?_, fun q hq => ?_⟩⟩
      · rw [bV_length, sz_eq]
        show 1 + _ ≤ 16777216
        omega
      · exact k _ q (by rw [upd_same, a0, gives_V])
end
end Ag

set_option maxRecDepth 100000
set_option maxHeartbeats 4000000
namespace Ag
open PySem PySem.Spec PyProof.Rows L2
/-- an error of the class is what its own name in «except» names -/
theorem exm_own {K : PySem.W.Frag} {S : Addr} (hb : PySem.W.subIn K (.ref S) (.type "BaseException") = some true) (hc : PySem.W.isClsIn K S = true) (ht : PySem.W.typeIn K (.ref S) = some (.type "type")) (hs : PySem.W.subIn K (.ref S) (.ref S) = some true) :
    PySem.W.exmOne K (.ref S) (.ref S) = some true := by
  have hc' : (PySem.W.clsIn K S).isSome = true := hc
  have u1 : (PySem.W.subIn K (.ref S) (.type "BaseException") == some true) = true := by rw [hb] <;> rfl
  have u2 : ((PySem.W.clsIn K S).isSome && PySem.W.typeIn K (.ref S) == some (.type "type")) = true := by rw [hc', ht] <;> rfl
  refine (if_pos u1).trans ?_
  exact (if_pos u2).trans hs
theorem rel_of_abs {x : V} {u : Value} (e : absV u = some x) : RelV x u := by
  cases u <;> simp only [absV, Option.some.injEq, reduceCtorEq] at e <;> subst e <;> first | rfl | exact ⟨_, rfl⟩
theorem vals_of_abs : ∀ {us : List Value} {zs : List Str}, us.map absV = zs.map (fun z => some (V.str z)) → Vals (zs.map V.str) us
  | [], [], _ => .nil
  | [], _ :: _, e => nomatch e
  | _ :: _, [], e => nomatch e
  | u :: us, z :: zs, e => by
    injection e with e1 e2
    exact .cons (rel_of_abs e1) (vals_of_abs e2)
theorem wrt {K : PySem.W.Frag} {a : Addr} {od : Option Addr} {it : Array Value} {n : Nat} {sl : Array (Option Value)} {zs : List Str} (hz : zs.length ≤ sizeLine) (x : K.lookup a = some ⟨.type "tuple", od, .seq it n, sl⟩) (e : it.toList.map absV = zs.map fun z => some (V.str z)) : WrT K a zs := by
  intro H
  refine .inr ⟨_, it, n, x, rfl, rfl, ?_, vals_of_abs e⟩
  have l := congrArg List.length e
  simp only [List.length_map, Array.length_toList] at l
  omega
theorem all_mk {P : Program} {w : World} {K : PySem.W.Frag} {h : Heap} {mg : Str → Option Value} {fa : Addr} (X : K.In h) (G : h.Ns mainGlobals mg) (hfa : mg "agree" = some (.ref fa))
    {CB fB CV CC CK aKW aPK f0 f1 f2 f3 f4 f5 f6 f7 f8 f9 f10 f11 f12 f13 f14 f15 f16 f17 f18 f19 f20 f21 f22 f23 f24 f25 m0 m1 m2 m3 m4 m5 m6 m7 m8 m9 : Addr}
    {nm qn : Str} {N : Addr} {bs : List Value} {sn : List Str} {sub : List Value} {ab : Bool} {col : Option Bool} {dd : Option Addr} {k0 k1 k2 k3 k5 : Option Value} {p1 p2 q1 q2 q3 q4 : Pos}
    {od_B an_B od_KW od_PK od_f0 an_f0 od_f1 an_f1 od_f2 an_f2 od_f3 an_f3 od_f4 an_f4 od_f5 an_f5 od_f6 an_f6 od_f7 an_f7 od_f8 an_f8 od_f9 an_f9 od_f10 an_f10 od_f11 an_f11 od_f12 an_f12 od_f13 an_f13 od_f14 an_f14 od_f15 an_f15 od_f16 an_f16 od_f17 an_f17 od_f18 an_f18 od_f19 an_f19 od_f20 an_f20 od_f21 an_f21 od_f22 an_f22 od_f23 an_f23 od_f24 an_f24 od_f25 an_f25 od_m0 an_m0 od_m1 an_m1 od_m2 an_m2 od_m3 an_m3 od_m4 an_m4 od_m5 an_m5 od_m6 an_m6 od_m7 an_m7 od_m8 an_m8 od_m9 an_m9 : Option Addr} {sl_B sl_KW sl_PK sl_f0 sl_f1 sl_f2 sl_f3 sl_f4 sl_f5 sl_f6 sl_f7 sl_f8 sl_f9 sl_f10 sl_f11 sl_f12 sl_f13 sl_f14 sl_f15 sl_f16 sl_f17 sl_f18 sl_f19 sl_f20 sl_f21 sl_f22 sl_f23 sl_f24 sl_f25 sl_m0 sl_m1 sl_m2 sl_m3 sl_m4 sl_m5 sl_m6 sl_m7 sl_m8 sl_m9 : Array (Option Value)} {it_KW it_PK : Array Value} {n_KW n_PK : Nat}
    {oc_B dc_B pm_B cd_B ct_B oc_f0 kV_f0 dc_f0 pm_f0 cd_f0 ct_f0 oc_f1 kV_f1 dc_f1 pm_f1 cd_f1 ct_f1 oc_f2 kV_f2 dc_f2 pm_f2 cd_f2 ct_f2 oc_f3 kV_f3 dc_f3 pm_f3 cd_f3 ct_f3 oc_f4 kV_f4 dc_f4 pm_f4 cd_f4 ct_f4 oc_f5 kV_f5 dc_f5 pm_f5 cd_f5 ct_f5 oc_f6 kV_f6 dc_f6 pm_f6 cd_f6 ct_f6 oc_f7 kV_f7 dc_f7 pm_f7 cd_f7 ct_f7 oc_f8 kV_f8 dc_f8 pm_f8 cd_f8 ct_f8 oc_f9 kV_f9 dc_f9 pm_f9 cd_f9 ct_f9 oc_f10 kV_f10 dc_f10 pm_f10 cd_f10 ct_f10 oc_f11 kV_f11 dc_f11 pm_f11 cd_f11 ct_f11 oc_f12 kV_f12 dc_f12 pm_f12 cd_f12 ct_f12 oc_f13 kV_f13 dc_f13 pm_f13 cd_f13 ct_f13 oc_f14 kV_f14 dc_f14 pm_f14 cd_f14 ct_f14 oc_f15 kV_f15 dc_f15 pm_f15 cd_f15 ct_f15 oc_f16 kV_f16 dc_f16 pm_f16 cd_f16 ct_f16 oc_f17 kV_f17 dc_f17 pm_f17 cd_f17 ct_f17 oc_f18 kV_f18 dc_f18 pm_f18 cd_f18 ct_f18 oc_f19 kV_f19 dc_f19 pm_f19 cd_f19 ct_f19 oc_f20 kV_f20 dc_f20 pm_f20 cd_f20 ct_f20 oc_f21 kV_f21 dc_f21 pm_f21 cd_f21 ct_f21 oc_f22 kV_f22 dc_f22 pm_f22 cd_f22 ct_f22 oc_f23 kV_f23 dc_f23 pm_f23 cd_f23 ct_f23 oc_f24 kV_f24 dc_f24 pm_f24 cd_f24 ct_f24 oc_f25 kV_f25 dc_f25 pm_f25 cd_f25 ct_f25 oc_m0 kV_m0 dc_m0 pm_m0 cd_m0 ct_m0 oc_m1 kV_m1 dc_m1 pm_m1 cd_m1 ct_m1 oc_m2 kV_m2 dc_m2 pm_m2 cd_m2 ct_m2 oc_m3 kV_m3 dc_m3 pm_m3 cd_m3 ct_m3 oc_m4 kV_m4 dc_m4 pm_m4 cd_m4 ct_m4 oc_m5 kV_m5 dc_m5 pm_m5 cd_m5 ct_m5 oc_m6 kV_m6 dc_m6 pm_m6 cd_m6 ct_m6 oc_m7 kV_m7 dc_m7 pm_m7 cd_m7 ct_m7 oc_m8 kV_m8 dc_m8 pm_m8 cd_m8 ct_m8 oc_m9 kV_m9 dc_m9 pm_m9 cd_m9 ct_m9 : Value} {t_tNum t_tByt t_tTxt t_tLst t_tRec t_tMom t_tId t_deepest t_lNum t_lName t_great t_none t_nothing t_lVal t_tooLong t_notTold t_notTaken t_notAgreed t_small t_large t_figures : Tok}
    (gCV : PySem.W.nsIn K mainGlobals "Value" = some (some (.ref CV)))
    (gCC : PySem.W.nsIn K mainGlobals "Cursor" = some (some (.ref CC)))
    (gCK : PySem.W.nsIn K mainGlobals "Kinds" = some (some (.ref CK)))
    (gCB : PySem.W.nsIn K mainGlobals "Broken" = some (some (.ref CB)))
    (a_f0 : PySem.W.nsIn K mainGlobals "letter" = some (some (.ref f0)))
    (l_f0 : K.lookup f0 = some ⟨oc_f0, od_f0, .func (PySem.W.fnOf "letter" "letter" (defArgs sLetter) (defBody sLetter) (defScope sLetter) .none kV_f0 dc_f0 pm_f0 an_f0 cd_f0 ct_f0), sl_f0⟩)
    (c_f0 : PySem.W.codeIn K cd_f0 "letter" = true)
    (k_f0 : PySem.W.keepIn K (.ref f0) = true)
    (a_f1 : PySem.W.nsIn K mainGlobals "word_of" = some (some (.ref f1)))
    (l_f1 : K.lookup f1 = some ⟨oc_f1, od_f1, .func (PySem.W.fnOf "word_of" "word_of" (defArgs sWordOf) (defBody sWordOf) (defScope sWordOf) .none kV_f1 dc_f1 pm_f1 an_f1 cd_f1 ct_f1), sl_f1⟩)
    (c_f1 : PySem.W.codeIn K cd_f1 "word_of" = true)
    (k_f1 : PySem.W.keepIn K (.ref f1) = true)
    (a_f2 : PySem.W.nsIn K mainGlobals "is_name" = some (some (.ref f2)))
    (l_f2 : K.lookup f2 = some ⟨oc_f2, od_f2, .func (PySem.W.fnOf "is_name" "is_name" (defArgs sIsName) (defBody sIsName) (defScope sIsName) .none kV_f2 dc_f2 pm_f2 an_f2 cd_f2 ct_f2), sl_f2⟩)
    (c_f2 : PySem.W.codeIn K cd_f2 "is_name" = true)
    (k_f2 : PySem.W.keepIn K (.ref f2) = true)
    (a_f3 : PySem.W.nsIn K mainGlobals "are_names" = some (some (.ref f3)))
    (l_f3 : K.lookup f3 = some ⟨oc_f3, od_f3, .func (PySem.W.fnOf "are_names" "are_names" (defArgs sAreNames) (defBody sAreNames) (defScope sAreNames) .none kV_f3 dc_f3 pm_f3 an_f3 cd_f3 ct_f3), sl_f3⟩)
    (c_f3 : PySem.W.codeIn K cd_f3 "are_names" = true)
    (k_f3 : PySem.W.keepIn K (.ref f3) = true)
    (a_f4 : PySem.W.nsIn K mainGlobals "tail_of" = some (some (.ref f4)))
    (l_f4 : K.lookup f4 = some ⟨oc_f4, od_f4, .func (PySem.W.fnOf "tail_of" "tail_of" (defArgs sTailOf) (defBody sTailOf) (defScope sTailOf) .none kV_f4 dc_f4 pm_f4 an_f4 cd_f4 ct_f4), sl_f4⟩)
    (c_f4 : PySem.W.codeIn K cd_f4 "tail_of" = true)
    (k_f4 : PySem.W.keepIn K (.ref f4) = true)
    (a_f5 : PySem.W.nsIn K mainGlobals "past_sign" = some (some (.ref f5)))
    (l_f5 : K.lookup f5 = some ⟨oc_f5, od_f5, .func (PySem.W.fnOf "past_sign" "past_sign" (defArgs sPastSign) (defBody sPastSign) (defScope sPastSign) .none kV_f5 dc_f5 pm_f5 an_f5 cd_f5 ct_f5), sl_f5⟩)
    (c_f5 : PySem.W.codeIn K cd_f5 "past_sign" = true)
    (k_f5 : PySem.W.keepIn K (.ref f5) = true)
    (a_f6 : PySem.W.nsIn K mainGlobals "check_text" = some (some (.ref f6)))
    (l_f6 : K.lookup f6 = some ⟨oc_f6, od_f6, .func (PySem.W.fnOf "check_text" "check_text" (defArgs sCheckText) (defBody sCheckText) (defScope sCheckText) .none kV_f6 dc_f6 pm_f6 an_f6 cd_f6 ct_f6), sl_f6⟩)
    (c_f6 : PySem.W.codeIn K cd_f6 "check_text" = true)
    (k_f6 : PySem.W.keepIn K (.ref f6) = true)
    (a_f7 : PySem.W.nsIn K mainGlobals "read_number" = some (some (.ref f7)))
    (l_f7 : K.lookup f7 = some ⟨oc_f7, od_f7, .func (PySem.W.fnOf "read_number" "read_number" (defArgs sReadNumber) (defBody sReadNumber) (defScope sReadNumber) .none kV_f7 dc_f7 pm_f7 an_f7 cd_f7 ct_f7), sl_f7⟩)
    (c_f7 : PySem.W.codeIn K cd_f7 "read_number" = true)
    (k_f7 : PySem.W.keepIn K (.ref f7) = true)
    (a_f8 : PySem.W.nsIn K mainGlobals "read_codes" = some (some (.ref f8)))
    (l_f8 : K.lookup f8 = some ⟨oc_f8, od_f8, .func (PySem.W.fnOf "read_codes" "read_codes" (defArgs sReadCodes) (defBody sReadCodes) (defScope sReadCodes) .none kV_f8 dc_f8 pm_f8 an_f8 cd_f8 ct_f8), sl_f8⟩)
    (c_f8 : PySem.W.codeIn K cd_f8 "read_codes" = true)
    (k_f8 : PySem.W.keepIn K (.ref f8) = true)
    (a_f9 : PySem.W.nsIn K mainGlobals "read_name" = some (some (.ref f9)))
    (l_f9 : K.lookup f9 = some ⟨oc_f9, od_f9, .func (PySem.W.fnOf "read_name" "read_name" (defArgs sReadName) (defBody sReadName) (defScope sReadName) .none kV_f9 dc_f9 pm_f9 an_f9 cd_f9 ct_f9), sl_f9⟩)
    (c_f9 : PySem.W.codeIn K cd_f9 "read_name" = true)
    (k_f9 : PySem.W.keepIn K (.ref f9) = true)
    (a_f10 : PySem.W.nsIn K mainGlobals "read_head" = some (some (.ref f10)))
    (l_f10 : K.lookup f10 = some ⟨oc_f10, od_f10, .func (PySem.W.fnOf "read_head" "read_head" (defArgs sReadHead) (defBody sReadHead) (defScope sReadHead) .none kV_f10 dc_f10 pm_f10 an_f10 cd_f10 ct_f10), sl_f10⟩)
    (c_f10 : PySem.W.codeIn K cd_f10 "read_head" = true)
    (k_f10 : PySem.W.keepIn K (.ref f10) = true)
    (a_f11 : PySem.W.nsIn K mainGlobals "decode" = some (some (.ref f11)))
    (l_f11 : K.lookup f11 = some ⟨oc_f11, od_f11, .func (PySem.W.fnOf "decode" "decode" (defArgs sDecode) (defBody sDecode) (defScope sDecode) .none kV_f11 dc_f11 pm_f11 an_f11 cd_f11 ct_f11), sl_f11⟩)
    (c_f11 : PySem.W.codeIn K cd_f11 "decode" = true)
    (k_f11 : PySem.W.keepIn K (.ref f11) = true)
    (a_f12 : PySem.W.nsIn K mainGlobals "text_word" = some (some (.ref f12)))
    (l_f12 : K.lookup f12 = some ⟨oc_f12, od_f12, .func (PySem.W.fnOf "text_word" "text_word" (defArgs sTextWord) (defBody sTextWord) (defScope sTextWord) .none kV_f12 dc_f12 pm_f12 an_f12 cd_f12 ct_f12), sl_f12⟩)
    (c_f12 : PySem.W.codeIn K cd_f12 "text_word" = true)
    (k_f12 : PySem.W.keepIn K (.ref f12) = true)
    (a_f13 : PySem.W.nsIn K mainGlobals "shape_of" = some (some (.ref f13)))
    (l_f13 : K.lookup f13 = some ⟨oc_f13, od_f13, .func (PySem.W.fnOf "shape_of" "shape_of" (defArgs sShapeOf) (defBody sShapeOf) (defScope sShapeOf) .none kV_f13 dc_f13 pm_f13 an_f13 cd_f13 ct_f13), sl_f13⟩)
    (c_f13 : PySem.W.codeIn K cd_f13 "shape_of" = true)
    (k_f13 : PySem.W.keepIn K (.ref f13) = true)
    (a_f14 : PySem.W.nsIn K mainGlobals "varying_bytes" = some (some (.ref f14)))
    (l_f14 : K.lookup f14 = some ⟨oc_f14, od_f14, .func (PySem.W.fnOf "varying_bytes" "varying_bytes" (defArgs sVaryingBytes) (defBody sVaryingBytes) (defScope sVaryingBytes) .none kV_f14 dc_f14 pm_f14 an_f14 cd_f14 ct_f14), sl_f14⟩)
    (c_f14 : PySem.W.codeIn K cd_f14 "varying_bytes" = true)
    (k_f14 : PySem.W.keepIn K (.ref f14) = true)
    (a_f15 : PySem.W.nsIn K mainGlobals "name_bytes" = some (some (.ref f15)))
    (l_f15 : K.lookup f15 = some ⟨oc_f15, od_f15, .func (PySem.W.fnOf "name_bytes" "name_bytes" (defArgs sNameBytes) (defBody sNameBytes) (defScope sNameBytes) .none kV_f15 dc_f15 pm_f15 an_f15 cd_f15 ct_f15), sl_f15⟩)
    (c_f15 : PySem.W.codeIn K cd_f15 "name_bytes" = true)
    (k_f15 : PySem.W.keepIn K (.ref f15) = true)
    (a_f16 : PySem.W.nsIn K mainGlobals "text_bytes" = some (some (.ref f16)))
    (l_f16 : K.lookup f16 = some ⟨oc_f16, od_f16, .func (PySem.W.fnOf "text_bytes" "text_bytes" (defArgs sTextBytes) (defBody sTextBytes) (defScope sTextBytes) .none kV_f16 dc_f16 pm_f16 an_f16 cd_f16 ct_f16), sl_f16⟩)
    (c_f16 : PySem.W.codeIn K cd_f16 "text_bytes" = true)
    (k_f16 : PySem.W.keepIn K (.ref f16) = true)
    (a_f17 : PySem.W.nsIn K mainGlobals "record_head" = some (some (.ref f17)))
    (l_f17 : K.lookup f17 = some ⟨oc_f17, od_f17, .func (PySem.W.fnOf "record_head" "record_head" (defArgs sRecordHead) (defBody sRecordHead) (defScope sRecordHead) .none kV_f17 dc_f17 pm_f17 an_f17 cd_f17 ct_f17), sl_f17⟩)
    (c_f17 : PySem.W.codeIn K cd_f17 "record_head" = true)
    (k_f17 : PySem.W.keepIn K (.ref f17) = true)
    (a_f18 : PySem.W.nsIn K mainGlobals "pieces_of" = some (some (.ref f18)))
    (l_f18 : K.lookup f18 = some ⟨oc_f18, od_f18, .func (PySem.W.fnOf "pieces_of" "pieces_of" (defArgs sPiecesOf) (defBody sPiecesOf) (defScope sPiecesOf) .none kV_f18 dc_f18 pm_f18 an_f18 cd_f18 ct_f18), sl_f18⟩)
    (c_f18 : PySem.W.codeIn K cd_f18 "pieces_of" = true)
    (k_f18 : PySem.W.keepIn K (.ref f18) = true)
    (a_f19 : PySem.W.nsIn K mainGlobals "told_bytes" = some (some (.ref f19)))
    (l_f19 : K.lookup f19 = some ⟨oc_f19, od_f19, .func (PySem.W.fnOf "told_bytes" "told_bytes" (defArgs sToldBytes) (defBody sToldBytes) (defScope sToldBytes) .none kV_f19 dc_f19 pm_f19 an_f19 cd_f19 ct_f19), sl_f19⟩)
    (c_f19 : PySem.W.codeIn K cd_f19 "told_bytes" = true)
    (k_f19 : PySem.W.keepIn K (.ref f19) = true)
    (a_f20 : PySem.W.nsIn K mainGlobals "is_told" = some (some (.ref f20)))
    (l_f20 : K.lookup f20 = some ⟨oc_f20, od_f20, .func (PySem.W.fnOf "is_told" "is_told" (defArgs sIsTold) (defBody sIsTold) (defScope sIsTold) .none kV_f20 dc_f20 pm_f20 an_f20 cd_f20 ct_f20), sl_f20⟩)
    (c_f20 : PySem.W.codeIn K cd_f20 "is_told" = true)
    (k_f20 : PySem.W.keepIn K (.ref f20) = true)
    (a_f21 : PySem.W.nsIn K mainGlobals "told_members" = some (some (.ref f21)))
    (l_f21 : K.lookup f21 = some ⟨oc_f21, od_f21, .func (PySem.W.fnOf "told_members" "told_members" (defArgs sToldMembers) (defBody sToldMembers) (defScope sToldMembers) .none kV_f21 dc_f21 pm_f21 an_f21 cd_f21 ct_f21), sl_f21⟩)
    (c_f21 : PySem.W.codeIn K cd_f21 "told_members" = true)
    (k_f21 : PySem.W.keepIn K (.ref f21) = true)
    (a_f22 : PySem.W.nsIn K mainGlobals "told_row" = some (some (.ref f22)))
    (l_f22 : K.lookup f22 = some ⟨oc_f22, od_f22, .func (PySem.W.fnOf "told_row" "told_row" (defArgs sToldRow) (defBody sToldRow) (defScope sToldRow) .none kV_f22 dc_f22 pm_f22 an_f22 cd_f22 ct_f22), sl_f22⟩)
    (c_f22 : PySem.W.codeIn K cd_f22 "told_row" = true)
    (k_f22 : PySem.W.keepIn K (.ref f22) = true)
    (a_f23 : PySem.W.nsIn K mainGlobals "read_told" = some (some (.ref f23)))
    (l_f23 : K.lookup f23 = some ⟨oc_f23, od_f23, .func (PySem.W.fnOf "read_told" "read_told" (defArgs sReadTold) (defBody sReadTold) (defScope sReadTold) .none kV_f23 dc_f23 pm_f23 an_f23 cd_f23 ct_f23), sl_f23⟩)
    (c_f23 : PySem.W.codeIn K cd_f23 "read_told" = true)
    (k_f23 : PySem.W.keepIn K (.ref f23) = true)
    (a_f24 : PySem.W.nsIn K mainGlobals "value_or_none" = some (some (.ref f24)))
    (l_f24 : K.lookup f24 = some ⟨oc_f24, od_f24, .func (PySem.W.fnOf "value_or_none" "value_or_none" (defArgs sValueOrNone) (defBody sValueOrNone) (defScope sValueOrNone) .none kV_f24 dc_f24 pm_f24 an_f24 cd_f24 ct_f24), sl_f24⟩)
    (c_f24 : PySem.W.codeIn K cd_f24 "value_or_none" = true)
    (k_f24 : PySem.W.keepIn K (.ref f24) = true)
    (a_f25 : PySem.W.nsIn K mainGlobals "agree" = some (some (.ref f25)))
    (l_f25 : K.lookup f25 = some ⟨oc_f25, od_f25, .func (PySem.W.fnOf "agree" "agree" (defArgs sAgree) (defBody sAgree) (defScope sAgree) .none kV_f25 dc_f25 pm_f25 an_f25 cd_f25 ct_f25), sl_f25⟩)
    (c_f25 : PySem.W.codeIn K cd_f25 "agree" = true)
    (k_f25 : PySem.W.keepIn K (.ref f25) = true)
    (a_m0 : PySem.W.findIn K (.ref CV) "__init__" = some (some (.ref m0)))
    (i_m0 : PySem.W.isFn K (.ref m0) = true)
    (l_m0 : K.lookup m0 = some ⟨oc_m0, od_m0, .func (PySem.W.fnOf "__init__" "Value.__init__" (defArgs sValueInit) (defBody sValueInit) (defScope sValueInit) .none kV_m0 dc_m0 pm_m0 an_m0 cd_m0 ct_m0), sl_m0⟩)
    (c_m0 : PySem.W.codeIn K cd_m0 "Value.__init__" = true)
    (k_m0 : PySem.W.keepIn K (.ref m0) = true)
    (a_m1 : PySem.W.findIn K (.ref CC) "__init__" = some (some (.ref m1)))
    (i_m1 : PySem.W.isFn K (.ref m1) = true)
    (l_m1 : K.lookup m1 = some ⟨oc_m1, od_m1, .func (PySem.W.fnOf "__init__" "Cursor.__init__" (defArgs sCursorInit) (defBody sCursorInit) (defScope sCursorInit) .none kV_m1 dc_m1 pm_m1 an_m1 cd_m1 ct_m1), sl_m1⟩)
    (c_m1 : PySem.W.codeIn K cd_m1 "Cursor.__init__" = true)
    (k_m1 : PySem.W.keepIn K (.ref m1) = true)
    (a_m2 : PySem.W.findIn K (.ref CC) "byte" = some (some (.ref m2)))
    (i_m2 : PySem.W.isFn K (.ref m2) = true)
    (l_m2 : K.lookup m2 = some ⟨oc_m2, od_m2, .func (PySem.W.fnOf "byte" "Cursor.byte" (defArgs sByte) (defBody sByte) (defScope sByte) .none kV_m2 dc_m2 pm_m2 an_m2 cd_m2 ct_m2), sl_m2⟩)
    (c_m2 : PySem.W.codeIn K cd_m2 "Cursor.byte" = true)
    (k_m2 : PySem.W.keepIn K (.ref m2) = true)
    (a_m3 : PySem.W.findIn K (.ref CC) "varying" = some (some (.ref m3)))
    (i_m3 : PySem.W.isFn K (.ref m3) = true)
    (l_m3 : K.lookup m3 = some ⟨oc_m3, od_m3, .func (PySem.W.fnOf "varying" "Cursor.varying" (defArgs sVarying) (defBody sVarying) (defScope sVarying) .none kV_m3 dc_m3 pm_m3 an_m3 cd_m3 ct_m3), sl_m3⟩)
    (c_m3 : PySem.W.codeIn K cd_m3 "Cursor.varying" = true)
    (k_m3 : PySem.W.keepIn K (.ref m3) = true)
    (a_m4 : PySem.W.findIn K (.ref CC) "span" = some (some (.ref m4)))
    (i_m4 : PySem.W.isFn K (.ref m4) = true)
    (l_m4 : K.lookup m4 = some ⟨oc_m4, od_m4, .func (PySem.W.fnOf "span" "Cursor.span" (defArgs sSpan) (defBody sSpan) (defScope sSpan) .none kV_m4 dc_m4 pm_m4 an_m4 cd_m4 ct_m4), sl_m4⟩)
    (c_m4 : PySem.W.codeIn K cd_m4 "Cursor.span" = true)
    (k_m4 : PySem.W.keepIn K (.ref m4) = true)
    (a_m5 : PySem.W.findIn K (.ref CK) "__init__" = some (some (.ref m5)))
    (i_m5 : PySem.W.isFn K (.ref m5) = true)
    (l_m5 : K.lookup m5 = some ⟨oc_m5, od_m5, .func (PySem.W.fnOf "__init__" "Kinds.__init__" (defArgs sKindsInit) (defBody sKindsInit) (defScope sKindsInit) .none kV_m5 dc_m5 pm_m5 an_m5 cd_m5 ct_m5), sl_m5⟩)
    (c_m5 : PySem.W.codeIn K cd_m5 "Kinds.__init__" = true)
    (k_m5 : PySem.W.keepIn K (.ref m5) = true)
    (a_m6 : PySem.W.findIn K (.ref CK) "put" = some (some (.ref m6)))
    (i_m6 : PySem.W.isFn K (.ref m6) = true)
    (l_m6 : K.lookup m6 = some ⟨oc_m6, od_m6, .func (PySem.W.fnOf "put" "Kinds.put" (defArgs sPut) (defBody sPut) (defScope sPut) .none kV_m6 dc_m6 pm_m6 an_m6 cd_m6 ct_m6), sl_m6⟩)
    (c_m6 : PySem.W.codeIn K cd_m6 "Kinds.put" = true)
    (k_m6 : PySem.W.keepIn K (.ref m6) = true)
    (a_m7 : PySem.W.findIn K (.ref CK) "below" = some (some (.ref m7)))
    (i_m7 : PySem.W.isFn K (.ref m7) = true)
    (l_m7 : K.lookup m7 = some ⟨oc_m7, od_m7, .func (PySem.W.fnOf "below" "Kinds.below" (defArgs sBelow) (defBody sBelow) (defScope sBelow) .none kV_m7 dc_m7 pm_m7 an_m7 cd_m7 ct_m7), sl_m7⟩)
    (c_m7 : PySem.W.codeIn K cd_m7 "Kinds.below" = true)
    (k_m7 : PySem.W.keepIn K (.ref m7) = true)
    (a_m8 : PySem.W.findIn K (.ref CK) "joined" = some (some (.ref m8)))
    (i_m8 : PySem.W.isFn K (.ref m8) = true)
    (l_m8 : K.lookup m8 = some ⟨oc_m8, od_m8, .func (PySem.W.fnOf "joined" "Kinds.joined" (defArgs sJoined) (defBody sJoined) (defScope sJoined) .none kV_m8 dc_m8 pm_m8 an_m8 cd_m8 ct_m8), sl_m8⟩)
    (c_m8 : PySem.W.codeIn K cd_m8 "Kinds.joined" = true)
    (k_m8 : PySem.W.keepIn K (.ref m8) = true)
    (a_m9 : PySem.W.findIn K (.ref CK) "common" = some (some (.ref m9)))
    (i_m9 : PySem.W.isFn K (.ref m9) = true)
    (l_m9 : K.lookup m9 = some ⟨oc_m9, od_m9, .func (PySem.W.fnOf "common" "Kinds.common" (defArgs sCommon) (defBody sCommon) (defScope sCommon) .none kV_m9 dc_m9 pm_m9 an_m9 cd_m9 ct_m9), sl_m9⟩)
    (c_m9 : PySem.W.codeIn K cd_m9 "Kinds.common" = true)
    (k_m9 : PySem.W.keepIn K (.ref m9) = true)
    (pgCV : PySem.W.plainGet K CV Str.empty = true)
    (hdCV : PySem.W.hasDictIn K CV = true)
    (poCV : PySem.W.plainOver K CV = true)
    (saCV : PySem.W.findIn K (.ref CV) "__setattr__" = some (some (.builtin "object.__setattr__")))
    (mkCV : PySem.W.makesIn K CV = true)
    (kcCV : PySem.W.keepIn K (.ref CV) = true)
    (nCV_tag : PySem.W.findIn K (.ref CV) "tag" = some none)
    (nCV_place : PySem.W.findIn K (.ref CV) "place" = some none)
    (nCV_many : PySem.W.findIn K (.ref CV) "many" = some none)
    (nCV_low : PySem.W.findIn K (.ref CV) "low" = some none)
    (nCV_codes : PySem.W.findIn K (.ref CV) "codes" = some none)
    (nCV_names : PySem.W.findIn K (.ref CV) "names" = some none)
    (nCV_members : PySem.W.findIn K (.ref CV) "members" = some none)
    (pgCC : PySem.W.plainGet K CC Str.empty = true)
    (hdCC : PySem.W.hasDictIn K CC = true)
    (poCC : PySem.W.plainOver K CC = true)
    (saCC : PySem.W.findIn K (.ref CC) "__setattr__" = some (some (.builtin "object.__setattr__")))
    (mkCC : PySem.W.makesIn K CC = true)
    (kcCC : PySem.W.keepIn K (.ref CC) = true)
    (nCC_data : PySem.W.findIn K (.ref CC) "data" = some none)
    (nCC_at : PySem.W.findIn K (.ref CC) "at" = some none)
    (pgCK : PySem.W.plainGet K CK Str.empty = true)
    (hdCK : PySem.W.hasDictIn K CK = true)
    (poCK : PySem.W.plainOver K CK = true)
    (saCK : PySem.W.findIn K (.ref CK) "__setattr__" = some (some (.builtin "object.__setattr__")))
    (mkCK : PySem.W.makesIn K CK = true)
    (kcCK : PySem.W.keepIn K (.ref CK) = true)
    (nCK_rows : PySem.W.findIn K (.ref CK) "rows" = some none)
    (nCK_numbers : PySem.W.findIn K (.ref CK) "numbers" = some none)
    (nCK_agreed : PySem.W.findIn K (.ref CK) "agreed" = some none)
    (nCK_sorts : PySem.W.findIn K (.ref CK) "sorts" = some none)
    (nCK_bases : PySem.W.findIn K (.ref CK) "bases" = some none)
    (z_len : PySem.W.nsIn K mainGlobals "len" = some none)
    (z_ord : PySem.W.nsIn K mainGlobals "ord" = some none)
    (z_range : PySem.W.nsIn K mainGlobals "range" = some none)
    (z_list : PySem.W.nsIn K mainGlobals "list" = some none)
    (z_tuple : PySem.W.nsIn K mainGlobals "tuple" = some none)
    (z_zip : PySem.W.nsIn K mainGlobals "zip" = some none)
    (v_tNum : PySem.W.nsIn K mainGlobals "NUMBER_TAG" = some (some (.int 2 t_tNum)))
    (v_tByt : PySem.W.nsIn K mainGlobals "BYTES_TAG" = some (some (.int 3 t_tByt)))
    (v_tTxt : PySem.W.nsIn K mainGlobals "TEXT_TAG" = some (some (.int 4 t_tTxt)))
    (v_tLst : PySem.W.nsIn K mainGlobals "LIST_TAG" = some (some (.int 5 t_tLst)))
    (v_tRec : PySem.W.nsIn K mainGlobals "RECORD_TAG" = some (some (.int 6 t_tRec)))
    (v_tMom : PySem.W.nsIn K mainGlobals "MOMENT_TAG" = some (some (.int 7 t_tMom)))
    (v_tId : PySem.W.nsIn K mainGlobals "ID_TAG" = some (some (.int 8 t_tId)))
    (v_deepest : PySem.W.nsIn K mainGlobals "DEEPEST" = some (some (.int 64 t_deepest)))
    (v_lNum : PySem.W.nsIn K mainGlobals "LONGEST_NUMBER" = some (some (.int 4096 t_lNum)))
    (v_lName : PySem.W.nsIn K mainGlobals "LONGEST_NAME" = some (some (.int 255 t_lName)))
    (v_great : PySem.W.nsIn K mainGlobals "GREATEST_VARYING" = some (some (.int 4294967295 t_great)))
    (v_none : PySem.W.nsIn K mainGlobals "NONE" = some (some (.int (-1) t_none)))
    (v_nothing : PySem.W.nsIn K mainGlobals "NOTHING" = some (some (.int 6 t_nothing)))
    (v_lVal : PySem.W.nsIn K mainGlobals "LONGEST_VALUE" = some (some (.int 16777216 t_lVal)))
    (v_tooLong : PySem.W.nsIn K mainGlobals "TOO_LONG" = some (some (.int (-2) t_tooLong)))
    (v_notTold : PySem.W.nsIn K mainGlobals "NOT_TOLD" = some (some (.int (-5) t_notTold)))
    (v_notTaken : PySem.W.nsIn K mainGlobals "NOT_TAKEN" = some (some (.int (-6) t_notTaken)))
    (v_notAgreed : PySem.W.nsIn K mainGlobals "NOT_AGREED" = some (some (.int (-9) t_notAgreed)))
    (v_small : PySem.W.nsIn K mainGlobals "SMALL" = some (some (.str zSmall t_small)))
    (v_large : PySem.W.nsIn K mainGlobals "LARGE" = some (some (.str zLarge t_large)))
    (v_figures : PySem.W.nsIn K mainGlobals "FIGURES" = some (some (.str zFigures t_figures)))
    (gKW : PySem.W.nsIn K mainGlobals "KEYWORDS" = some (some (.ref aKW)))
    (xKW : K.lookup aKW = some ⟨.type "tuple", od_KW, .seq it_KW n_KW, sl_KW⟩)
    (wKW : it_KW.toList.map absV = kwList.map fun z => some (V.str z))
    (gPK : PySem.W.nsIn K mainGlobals "PLAIN_KINDS" = some (some (.ref aPK)))
    (xPK : K.lookup aPK = some ⟨.type "tuple", od_PK, .seq it_PK n_PK, sl_PK⟩)
    (wPK : it_PK.toList.map absV = pkList.map fun z => some (V.str z))
    (xB : K.lookup CB = some (excClassObj nm qn CB N bs [.type "Exception", .type "BaseException", .type "object"] true sn sub ab col dd k0 k1 k2 k3 k5 "Exception.__new__"))
    (saB : PySem.W.findIn K (.ref CB) "__setattr__" = some (some (.builtin "object.__setattr__")))
    (nB : PySem.W.findIn K (.ref CB) "place" = some none)
    (aB : PySem.W.findIn K (.ref CB) "__init__" = some (some (.ref fB)))
    (tB : PySem.W.typeIn K (.ref fB) = some (.type "function"))
    (lB : K.lookup fB = some ⟨oc_B, od_B, .func (PySem.W.fnOf "__init__" "Broken.__init__" (PySem.BrkX.iA p1 p2) (PySem.BrkX.iB q1 q2 q3 q4) PySem.BrkX.iS .none .none dc_B pm_B an_B cd_B ct_B), sl_B⟩)
    (cB : PySem.W.codeIn K cd_B "Broken.__init__" = true)
    (kB : PySem.W.keepIn K (.ref CB) = true)
    (eB : PySem.W.subIn K (.ref CB) (.type "BaseException") = some true)
    (yB : PySem.W.typeIn K (.ref CB) = some (.type "type"))
    (hB : PySem.W.hasDictIn K CB = true)
    (iB : PySem.W.isClsIn K CB = true)
    (sB : PySem.W.subIn K (.ref CB) (.ref CB) = some true) :
    ∃ fd : FuncData, (∀ (s : Shared) (us : List Value), us.length = (["a", "b"] : List Str).length → BindsTo s fd ⟨us, []⟩ ((["a", "b"] : List Str).zip us)) ∧ ∀ base : Heap, K.In base → base.Ns mainGlobals mg → FnOk P w K mg base CX0 9 fa fd ["a", "b"] (spAgree K) := by
  have e : f25 = fa := by have z := (PySem.W.mg_of X G a_f25).symm.trans hfa; injection z with z; injection z
  subst e
  have brk : PySem.BrkX.BrkTxt K mg CB fB :=
    { gC := PySem.W.mg_of X G gCB, cls := ⟨nm, qn, N, bs, _, sn, sub, ab, col, dd, k0, k1, k2, k3, k5, xB, rfl⟩, sa := saB, noN := nB, iC := aB, tC := tB, kC := kB, exC := eB, tyC := yB, hdC := hB, te := exm_own eB iB yB sB,
      fn := ⟨_, _, _, _, _, _, _, _, _, _, _, _, _, _, lB, cB⟩ }
  have T : Txt K mg CB fB CV CC CK aKW aPK :=
    { len := PySem.W.mg_none_of X G z_len, ord := PySem.W.mg_none_of X G z_ord, range := PySem.W.mg_none_of X G z_range, list := PySem.W.mg_none_of X G z_list, tuple := PySem.W.mg_none_of X G z_tuple, zip := PySem.W.mg_none_of X G z_zip, small := ⟨_, PySem.W.mg_of X G v_small⟩, large := ⟨_, PySem.W.mg_of X G v_large⟩, figures := ⟨_, PySem.W.mg_of X G v_figures⟩, tNum := ⟨_, PySem.W.mg_of X G v_tNum⟩, tByt := ⟨_, PySem.W.mg_of X G v_tByt⟩, tTxt := ⟨_, PySem.W.mg_of X G v_tTxt⟩, tLst := ⟨_, PySem.W.mg_of X G v_tLst⟩, tRec := ⟨_, PySem.W.mg_of X G v_tRec⟩, tMom := ⟨_, PySem.W.mg_of X G v_tMom⟩, tId := ⟨_, PySem.W.mg_of X G v_tId⟩, deepest := ⟨_, PySem.W.mg_of X G v_deepest⟩, lNum := ⟨_, PySem.W.mg_of X G v_lNum⟩, lName := ⟨_, PySem.W.mg_of X G v_lName⟩, great := ⟨_, PySem.W.mg_of X G v_great⟩, none := ⟨_, PySem.W.mg_of X G v_none⟩, nothing := ⟨_, PySem.W.mg_of X G v_nothing⟩, lVal := ⟨_, PySem.W.mg_of X G v_lVal⟩, tooLong := ⟨_, PySem.W.mg_of X G v_tooLong⟩, notTold := ⟨_, PySem.W.mg_of X G v_notTold⟩, notTaken := ⟨_, PySem.W.mg_of X G v_notTaken⟩, notAgreed := ⟨_, PySem.W.mg_of X G v_notAgreed⟩, kw := PySem.W.mg_of X G gKW, kwT := wrt (by rw [sz_eq]; decide) xKW wKW, pk := PySem.W.mg_of X G gPK, pkT := wrt (by rw [sz_eq]; decide) xPK wPK, brk := brk, eB := exm_own eB iB yB sB, clV := ⟨pgCV, hdCV, poCV, saCV⟩, gV := PySem.W.mg_of X G gCV, vTag := nCV_tag, vPlace := nCV_place, vMany := nCV_many, vLow := nCV_low, vCodes := nCV_codes, vNames := nCV_names, vMembers := nCV_members, clC := ⟨pgCC, hdCC, poCC, saCC⟩, gC := PySem.W.mg_of X G gCC, cData := nCC_data, cAt := nCC_at, clK := ⟨pgCK, hdCK, poCK, saCK⟩, gK := PySem.W.mg_of X G gCK, kRows := nCK_rows, kNumbers := nCK_numbers, kAgreed := nCK_agreed, kSorts := nCK_sorts, kBases := nCK_bases }
  have F_f0 := fun_mk (st := sLetter) l_f0 c_f0 k_f0
  have b_f0 := F_f0.binds (ps := ["code"]) fun _ _ _ _ _ _ us hl => match us, hl with | [_], _ => rfl
  have F_f1 := fun_mk (st := sWordOf) l_f1 c_f1 k_f1
  have b_f1 := F_f1.binds (ps := ["codes"]) fun _ _ _ _ _ _ us hl => match us, hl with | [_], _ => rfl
  have F_f2 := fun_mk (st := sIsName) l_f2 c_f2 k_f2
  have b_f2 := F_f2.binds (ps := ["word"]) fun _ _ _ _ _ _ us hl => match us, hl with | [_], _ => rfl
  have F_f3 := fun_mk (st := sAreNames) l_f3 c_f3 k_f3
  have b_f3 := F_f3.binds (ps := ["words"]) fun _ _ _ _ _ _ us hl => match us, hl with | [_], _ => rfl
  have F_f4 := fun_mk (st := sTailOf) l_f4 c_f4 k_f4
  have b_f4 := F_f4.binds (ps := ["first"]) fun _ _ _ _ _ _ us hl => match us, hl with | [_], _ => rfl
  have F_f5 := fun_mk (st := sPastSign) l_f5 c_f5 k_f5
  have b_f5 := F_f5.binds (ps := ["data", "at", "end"]) fun _ _ _ _ _ _ us hl => match us, hl with | [_, _, _], _ => rfl
  have F_f6 := fun_mk (st := sCheckText) l_f6 c_f6 k_f6
  have b_f6 := F_f6.binds (ps := ["data", "first", "end"]) fun _ _ _ _ _ _ us hl => match us, hl with | [_, _, _], _ => rfl
  have F_f7 := fun_mk (st := sReadNumber) l_f7 c_f7 k_f7
  have b_f7 := F_f7.binds (ps := ["cursor", "value"]) fun _ _ _ _ _ _ us hl => match us, hl with | [_, _], _ => rfl
  have F_f8 := fun_mk (st := sReadCodes) l_f8 c_f8 k_f8
  have b_f8 := F_f8.binds (ps := ["cursor", "value"]) fun _ _ _ _ _ _ us hl => match us, hl with | [_, _], _ => rfl
  have F_f9 := fun_mk (st := sReadName) l_f9 c_f9 k_f9
  have b_f9 := F_f9.binds (ps := ["cursor", "record"]) fun _ _ _ _ _ _ us hl => match us, hl with | [_, _], _ => rfl
  have F_f10 := fun_mk (st := sReadHead) l_f10 c_f10 k_f10
  have b_f10 := F_f10.binds (ps := ["cursor", "deep"]) fun _ _ _ _ _ _ us hl => match us, hl with | [_, _], _ => rfl
  have F_f11 := fun_mk (st := sDecode) l_f11 c_f11 k_f11
  have b_f11 := F_f11.binds (ps := ["data"]) fun _ _ _ _ _ _ us hl => match us, hl with | [_], _ => rfl
  have F_f12 := fun_mk (st := sTextWord) l_f12 c_f12 k_f12
  have b_f12 := F_f12.binds (ps := ["value"]) fun _ _ _ _ _ _ us hl => match us, hl with | [_], _ => rfl
  have F_f13 := fun_mk (st := sShapeOf) l_f13 c_f13 k_f13
  have b_f13 := F_f13.binds (ps := ["value"]) fun _ _ _ _ _ _ us hl => match us, hl with | [_], _ => rfl
  have F_f14 := fun_mk (st := sVaryingBytes) l_f14 c_f14 k_f14
  have b_f14 := F_f14.binds (ps := ["amount"]) fun _ _ _ _ _ _ us hl => match us, hl with | [_], _ => rfl
  have F_f15 := fun_mk (st := sNameBytes) l_f15 c_f15 k_f15
  have b_f15 := F_f15.binds (ps := ["word"]) fun _ _ _ _ _ _ us hl => match us, hl with | [_], _ => rfl
  have F_f16 := fun_mk (st := sTextBytes) l_f16 c_f16 k_f16
  have b_f16 := F_f16.binds (ps := ["word"]) fun _ _ _ _ _ _ us hl => match us, hl with | [_], _ => rfl
  have F_f17 := fun_mk (st := sRecordHead) l_f17 c_f17 k_f17
  have b_f17 := F_f17.binds (ps := ["many"]) fun _ _ _ _ _ _ us hl => match us, hl with | [_], _ => rfl
  have F_f18 := fun_mk (st := sPiecesOf) l_f18 c_f18 k_f18
  have b_f18 := F_f18.binds (ps := ["row"]) fun _ _ _ _ _ _ us hl => match us, hl with | [_], _ => rfl
  have F_f19 := fun_mk (st := sToldBytes) l_f19 c_f19 k_f19
  have b_f19 := F_f19.binds (ps := ["kinds", "kind"]) fun _ _ _ _ _ _ us hl => match us, hl with | [_, _], _ => rfl
  have F_f20 := fun_mk (st := sIsTold) l_f20 c_f20 k_f20
  have b_f20 := F_f20.binds (ps := ["value"]) fun _ _ _ _ _ _ us hl => match us, hl with | [_], _ => rfl
  have F_f21 := fun_mk (st := sToldMembers) l_f21 c_f21 k_f21
  have b_f21 := F_f21.binds (ps := ["value"]) fun _ _ _ _ _ _ us hl => match us, hl with | [_], _ => rfl
  have F_f22 := fun_mk (st := sToldRow) l_f22 c_f22 k_f22
  have b_f22 := F_f22.binds (ps := ["value", "found"]) fun _ _ _ _ _ _ us hl => match us, hl with | [_, _], _ => rfl
  have F_f23 := fun_mk (st := sReadTold) l_f23 c_f23 k_f23
  have b_f23 := F_f23.binds (ps := ["kinds", "value"]) fun _ _ _ _ _ _ us hl => match us, hl with | [_, _], _ => rfl
  have F_f24 := fun_mk (st := sValueOrNone) l_f24 c_f24 k_f24
  have b_f24 := F_f24.binds (ps := ["data"]) fun _ _ _ _ _ _ us hl => match us, hl with | [_], _ => rfl
  have F_f25 := fun_mk (st := sAgree) l_f25 c_f25 k_f25
  have b_f25 := F_f25.binds (ps := ["a", "b"]) fun _ _ _ _ _ _ us hl => match us, hl with | [_, _], _ => rfl
  have F_m0 := fun_mk (st := sValueInit) l_m0 c_m0 k_m0
  have b_m0 := F_m0.binds (ps := ["self", "tag", "place"]) fun _ _ _ _ _ _ us hl => match us, hl with | [_, _, _], _ => rfl
  have F_m1 := fun_mk (st := sCursorInit) l_m1 c_m1 k_m1
  have b_m1 := F_m1.binds (ps := ["self", "data"]) fun _ _ _ _ _ _ us hl => match us, hl with | [_, _], _ => rfl
  have F_m2 := fun_mk (st := sByte) l_m2 c_m2 k_m2
  have b_m2 := F_m2.binds (ps := ["self"]) fun _ _ _ _ _ _ us hl => match us, hl with | [_], _ => rfl
  have F_m3 := fun_mk (st := sVarying) l_m3 c_m3 k_m3
  have b_m3 := F_m3.binds (ps := ["self"]) fun _ _ _ _ _ _ us hl => match us, hl with | [_], _ => rfl
  have F_m4 := fun_mk (st := sSpan) l_m4 c_m4 k_m4
  have b_m4 := F_m4.binds (ps := ["self", "many"]) fun _ _ _ _ _ _ us hl => match us, hl with | [_, _], _ => rfl
  have F_m5 := fun_mk (st := sKindsInit) l_m5 c_m5 k_m5
  have b_m5 := F_m5.binds (ps := ["self"]) fun _ _ _ _ _ _ us hl => match us, hl with | [_], _ => rfl
  have F_m6 := fun_mk (st := sPut) l_m6 c_m6 k_m6
  have b_m6 := F_m6.binds (ps := ["self", "row"]) fun _ _ _ _ _ _ us hl => match us, hl with | [_, _], _ => rfl
  have F_m7 := fun_mk (st := sBelow) l_m7 c_m7 k_m7
  have b_m7 := F_m7.binds (ps := ["self", "pair"]) fun _ _ _ _ _ _ us hl => match us, hl with | [_, _], _ => rfl
  have F_m8 := fun_mk (st := sJoined) l_m8 c_m8 k_m8
  have b_m8 := F_m8.binds (ps := ["self", "pair"]) fun _ _ _ _ _ _ us hl => match us, hl with | [_, _], _ => rfl
  have F_m9 := fun_mk (st := sCommon) l_m9 c_m9 k_m9
  have b_m9 := F_m9.binds (ps := ["self", "one", "two"]) fun _ _ _ _ _ _ us hl => match us, hl with | [_, _, _], _ => rfl
  refine ⟨PySem.W.fnOf "agree" "agree" (defArgs sAgree) (defBody sAgree) (defScope sAgree) .none kV_f25 dc_f25 pm_f25 an_f25 cd_f25 ct_f25, fun s us hu => match us, hu with | [_, _], _ => .of_eq rfl, fun base _ _ => ?_⟩
  have G_f14 : FnOk P w K mg base CX0 1 f14 _ ["amount"] (spVary) := ok_vary F_f14
  have H_f14 : Gf P w K mg base CX0 1 "varying_bytes" f14 _ ["amount"] (spVary) := ⟨G_f14, PySem.W.mg_of X G a_f14, k_f14, b_f14⟩
  have G_f0 : FnOk P w K mg base CX0 1 f0 _ ["code"] (spLetter) := ok_letter T F_f0
  have H_f0 : Gf P w K mg base CX0 1 "letter" f0 _ ["code"] (spLetter) := ⟨G_f0, PySem.W.mg_of X G a_f0, k_f0, b_f0⟩
  have G_f1 : FnOk P w K mg base CX0 2 f1 _ ["codes"] (spWordOf K) := ok_wordOf F_f1 H_f0
  have H_f1 : Gf P w K mg base CX0 2 "word_of" f1 _ ["codes"] (spWordOf K) := ⟨G_f1, PySem.W.mg_of X G a_f1, k_f1, b_f1⟩
  have G_f2 : FnOk P w K mg base CX0 1 f2 _ ["word"] (spIsName) := ok_isName T F_f2
  have H_f2 : Gf P w K mg base CX0 1 "is_name" f2 _ ["word"] (spIsName) := ⟨G_f2, PySem.W.mg_of X G a_f2, k_f2, b_f2⟩
  have G_f3 : FnOk P w K mg base CX0 2 f3 _ ["words"] (spAreNames K) := ok_areNames F_f3 H_f2
  have H_f3 : Gf P w K mg base CX0 2 "are_names" f3 _ ["words"] (spAreNames K) := ⟨G_f3, PySem.W.mg_of X G a_f3, k_f3, b_f3⟩
  have G_f12 : FnOk P w K mg base CX0 3 f12 _ ["value"] (spTextWord K CV) := ok_textWord T F_f12 H_f1
  have H_f12 : Gf P w K mg base CX0 3 "text_word" f12 _ ["value"] (spTextWord K CV) := ⟨G_f12, PySem.W.mg_of X G a_f12, k_f12, b_f12⟩
  have G_f13 : FnOk P w K mg base CX0 1 f13 _ ["value"] (spShapeOf K CV) := ok_shapeOf T F_f13
  have H_f13 : Gf P w K mg base CX0 1 "shape_of" f13 _ ["value"] (spShapeOf K CV) := ⟨G_f13, PySem.W.mg_of X G a_f13, k_f13, b_f13⟩
  have G_f15 : FnOk P w K mg base CX0 2 f15 _ ["word"] (spNameB) := ok_nameBytes T F_f15 H_f14
  have H_f15 : Gf P w K mg base CX0 2 "name_bytes" f15 _ ["word"] (spNameB) := ⟨G_f15, PySem.W.mg_of X G a_f15, k_f15, b_f15⟩
  have G_f16 : FnOk P w K mg base CX0 3 f16 _ ["word"] (spTextB) := ok_textBytes F_f16 H_f15
  have H_f16 : Gf P w K mg base CX0 3 "text_bytes" f16 _ ["word"] (spTextB) := ⟨G_f16, PySem.W.mg_of X G a_f16, k_f16, b_f16⟩
  have G_f17 : FnOk P w K mg base CX0 2 f17 _ ["many"] (spRecHead) := ok_recordHead F_f17 H_f14
  have H_f17 : Gf P w K mg base CX0 2 "record_head" f17 _ ["many"] (spRecHead) := ⟨G_f17, PySem.W.mg_of X G a_f17, k_f17, b_f17⟩
  have G_m1 : FnOk P w K mg base CX0 1 m1 _ ["self", "data"] (spCInit CC) := ok_cInit T F_m1
  have G_m0 : FnOk P w K mg base CX0 1 m0 _ ["self", "tag", "place"] (spVInit CV) := ok_vInit T F_m0
  have G_m2 : FnOk P w K mg base (L2.CX P w) 3 m2 _ ["self"] (spByte K CB CC) := ok_byte T F_m2
  have H_m2 : Gm P w K mg base CC (L2.CX P w) 3 "byte" m2 _ ["self"] (spByte K CB CC) := ⟨G_m2, ⟨a_m2, i_m2, k_m2⟩, b_m2⟩
  have G_m4 : FnOk P w K mg base (L2.CX P w) 3 m4 _ ["self", "many"] (spSpan K CB CC) := ok_span T F_m4
  have H_m4 : Gm P w K mg base CC (L2.CX P w) 3 "span" m4 _ ["self", "many"] (spSpan K CB CC) := ⟨G_m4, ⟨a_m4, i_m4, k_m4⟩, b_m4⟩
  have G_m3 : FnOk P w K mg base (L2.CX P w) 4 m3 _ ["self"] (spVarying K CB CC) := ok_varying T F_m3 G_m2 ⟨a_m2, i_m2, k_m2⟩ b_m2
  have H_m3 : Gm P w K mg base CC (L2.CX P w) 4 "varying" m3 _ ["self"] (spVarying K CB CC) := ⟨G_m3, ⟨a_m3, i_m3, k_m3⟩, b_m3⟩
  have G_f4 : FnOk P w K mg base CX0 1 f4 _ ["first"] (spTail) := ok_tail F_f4
  have H_f4 : Gf P w K mg base CX0 1 "tail_of" f4 _ ["first"] (spTail) := ⟨G_f4, PySem.W.mg_of X G a_f4, k_f4, b_f4⟩
  have G_f5 : FnOk P w K mg base (L2.CX P w) 3 f5 _ ["data", "at", "end"] (spPast K CB) := ok_past T F_f5 H_f4
  have H_f5 : Gf P w K mg base (L2.CX P w) 3 "past_sign" f5 _ ["data", "at", "end"] (spPast K CB) := ⟨G_f5, PySem.W.mg_of X G a_f5, k_f5, b_f5⟩
  have G_f6 : FnOk P w K mg base (L2.CX P w) 4 f6 _ ["data", "first", "end"] (spCheck K CB) := ok_check F_f6 H_f5
  have H_f6 : Gf P w K mg base (L2.CX P w) 4 "check_text" f6 _ ["data", "first", "end"] (spCheck K CB) := ⟨G_f6, PySem.W.mg_of X G a_f6, k_f6, b_f6⟩
  have G_f7 : FnOk P w K mg base (L2.CX P w) 5 f7 _ ["cursor", "value"] (spNum K CB CC CV) := ok_num T F_f7 H_m3 H_m4
  have H_f7 : Gf P w K mg base (L2.CX P w) 5 "read_number" f7 _ ["cursor", "value"] (spNum K CB CC CV) := ⟨G_f7, PySem.W.mg_of X G a_f7, k_f7, b_f7⟩
  have G_f8 : FnOk P w K mg base (L2.CX P w) 5 f8 _ ["cursor", "value"] (spCodes K CB CC CV) := ok_codes T F_f8 H_m3 H_m4 H_f6
  have H_f8 : Gf P w K mg base (L2.CX P w) 5 "read_codes" f8 _ ["cursor", "value"] (spCodes K CB CC CV) := ⟨G_f8, PySem.W.mg_of X G a_f8, k_f8, b_f8⟩
  have G_f9 : FnOk P w K mg base (L2.CX P w) 5 f9 _ ["cursor", "record"] (spName K CB CC CV) := ok_name T F_f9 H_m3 H_m4 H_f6 H_f1
  have H_f9 : Gf P w K mg base (L2.CX P w) 5 "read_name" f9 _ ["cursor", "record"] (spName K CB CC CV) := ⟨G_f9, PySem.W.mg_of X G a_f9, k_f9, b_f9⟩
  have G_f10 : FnOk P w K mg base (L2.CX P w) 6 f10 _ ["cursor", "deep"] (spHead K CB CC CV) := ok_head T F_f10 ⟨mkCV, a_m0, i_m0, kcCV⟩ G_m0 b_m0 H_m2 H_m3 H_m4 H_f7 H_f8
  have H_f10 : Gf P w K mg base (L2.CX P w) 6 "read_head" f10 _ ["cursor", "deep"] (spHead K CB CC CV) := ⟨G_f10, PySem.W.mg_of X G a_f10, k_f10, b_f10⟩
  have G_f11 : FnOk P w K mg base (L2.CX P w) 7 f11 _ ["data"] (spDecode K CB CV) := ok_decode T F_f11 ⟨mkCC, a_m1, i_m1, kcCC⟩ G_m1 b_m1 H_f10 H_f9
  have H_f11 : Gf P w K mg base (L2.CX P w) 7 "decode" f11 _ ["data"] (spDecode K CB CV) := ⟨G_f11, PySem.W.mg_of X G a_f11, k_f11, b_f11⟩
  have G_f24 : FnOk P w K mg base CX0 8 f24 _ ["data"] (spVal K CV) := ok_val T F_f24 H_f11
  have H_f24 : Gf P w K mg base CX0 8 "value_or_none" f24 _ ["data"] (spVal K CV) := ⟨G_f24, PySem.W.mg_of X G a_f24, k_f24, b_f24⟩
  have G_m6 : FnOk P w K mg base CX0 1 m6 _ ["self", "row"] (spPut P w CK) := ok_put T F_m6
  have H_m6 : Gm P w K mg base CK CX0 1 "put" m6 _ ["self", "row"] (spPut P w CK) := ⟨G_m6, ⟨a_m6, i_m6, k_m6⟩, b_m6⟩
  have G_m5 : FnOk P w K mg base CX0 2 m5 _ ["self"] (spKInit P w CK) := ok_kInit T F_m5 H_m6
  have G_m7 : FnOk P w K mg base CX0 1 m7 _ ["self", "pair"] (spBelow P w CK) := ok_below T F_m7
  have H_m7 : Gm P w K mg base CK CX0 1 "below" m7 _ ["self", "pair"] (spBelow P w CK) := ⟨G_m7, ⟨a_m7, i_m7, k_m7⟩, b_m7⟩
  have G_m8 : FnOk P w K mg base CX0 2 m8 _ ["self", "pair"] (spJoined P w CK) := ok_joined T F_m8 H_m6 H_m7
  have H_m8 : Gm P w K mg base CK CX0 2 "joined" m8 _ ["self", "pair"] (spJoined P w CK) := ⟨G_m8, ⟨a_m8, i_m8, k_m8⟩, b_m8⟩
  have G_m9 : FnOk P w K mg base CX0 3 m9 _ ["self", "one", "two"] (spCommon P w CK) := ok_common T F_m9 H_m8 H_m7
  have H_m9 : Gm P w K mg base CK CX0 3 "common" m9 _ ["self", "one", "two"] (spCommon P w CK) := ⟨G_m9, ⟨a_m9, i_m9, k_m9⟩, b_m9⟩
  have G_f18 : FnOk P w K mg base CX0 4 f18 _ ["row"] (spPieces) := ok_pieces T F_f18 H_f15 H_f16 H_f17
  have H_f18 : Gf P w K mg base CX0 4 "pieces_of" f18 _ ["row"] (spPieces) := ⟨G_f18, PySem.W.mg_of X G a_f18, k_f18, b_f18⟩
  have G_f19 : FnOk P w K mg base CX0 5 f19 _ ["kinds", "kind"] (spToldB P w CK) := ok_toldB T F_f19 H_f18
  have H_f19 : Gf P w K mg base CX0 5 "told_bytes" f19 _ ["kinds", "kind"] (spToldB P w CK) := ⟨G_f19, PySem.W.mg_of X G a_f19, k_f19, b_f19⟩
  have G_f20 : FnOk P w K mg base CX0 4 f20 _ ["value"] (spIsTold CV) := ok_isTold T F_f20 H_f12 H_f13 H_f2 H_f3
  have H_f20 : Gf P w K mg base CX0 4 "is_told" f20 _ ["value"] (spIsTold CV) := ⟨G_f20, PySem.W.mg_of X G a_f20, k_f20, b_f20⟩
  have G_f21 : FnOk P w K mg base CX0 2 f21 _ ["value"] (spMembers CV) := ok_members T F_f21 H_f13
  have H_f21 : Gf P w K mg base CX0 2 "told_members" f21 _ ["value"] (spMembers CV) := ⟨G_f21, PySem.W.mg_of X G a_f21, k_f21, b_f21⟩
  have G_f22 : FnOk P w K mg base CX0 4 f22 _ ["value", "found"] (spRow CV) := ok_row T F_f22 H_f12 H_f13 H_f21
  have H_f22 : Gf P w K mg base CX0 4 "told_row" f22 _ ["value", "found"] (spRow CV) := ⟨G_f22, PySem.W.mg_of X G a_f22, k_f22, b_f22⟩
  have G_f23 : FnOk P w K mg base CX0 5 f23 _ ["kinds", "value"] (spReadT P w CK CV) := ok_readT T F_f23 H_f20 H_f21 H_f22 H_m6
  have H_f23 : Gf P w K mg base CX0 5 "read_told" f23 _ ["kinds", "value"] (spReadT P w CK CV) := ⟨G_f23, PySem.W.mg_of X G a_f23, k_f23, b_f23⟩
  have G_f25 : FnOk P w K mg base CX0 9 f25 _ ["a", "b"] (spAgree K) := ok_agree T F_f25 H_f24 ⟨mkCK, a_m5, i_m5, kcCK⟩ G_m5 b_m5 H_f23 H_m9 H_f19
  have H_f25 : Gf P w K mg base CX0 9 "agree" f25 _ ["a", "b"] (spAgree K) := ⟨G_f25, PySem.W.mg_of X G a_f25, k_f25, b_f25⟩
  exact G_f25
end Ag

set_option maxRecDepth 100000
set_option maxHeartbeats 4000000
namespace Ag
open PySem PySem.Spec PyProof.Rows L2
theorem bytes_of : ∀ ns : List Int, (∀ n ∈ ns, 0 ≤ n ∧ n ≤ 255) → bV (ProgramsNeutral.text ns) = ns.map V.int
  | [], _ => rfl
  | n :: r, h => by
    have e := h n (List.mem_cons_self ..)
    have t := bytes_of r fun z hz => h z (List.mem_cons_of_mem _ hz)
    show V.int (((UInt8.ofNat n.toNat).toNat : Nat) : Int) :: bV (ProgramsNeutral.text r) = V.int n :: r.map V.int
    have e2 : (((UInt8.ofNat n.toNat).toNat : Nat) : Int) = n := by
      rw [UInt8.toNat_ofNat', Nat.mod_eq_of_lt (by omega)]
      omega
    rw [t, e2]
theorem side_of {ns : List Int} (h : (PySem.W.Codec.list 0 8192 (PySem.W.Codec.int 0 255)).within ns = true) : bV (ProgramsNeutral.text ns) = ns.map V.int ∧ (ProgramsNeutral.text ns).length ≤ 8192 := by
  have k : PySem.W.Codec.inNat 0 8192 ns.length = true ∧ ns.all (PySem.W.Codec.inInt 0 255) = true := PySem.W.Codec.and_of h
  refine ⟨bytes_of ns fun n hn => ?_, ?_⟩
  · have z : (decide ((0 : Int) ≤ n) && decide (n ≤ 255)) = true := List.all_eq_true.mp k.2 n hn
    rw [Bool.and_eq_true, decide_eq_true_eq, decide_eq_true_eq] at z
    exact z
  · have z := (PySem.W.Codec.inNat_iff.mp k.1).2
    unfold ProgramsNeutral.text
    rw [List.length_map]
    exact z
theorem asked_S (K : PySem.W.Frag) (H : Hp) (xs : List V) (a : PySem.W.Codec.denoteAll PySem.Challenge.rw_judgedrules_s04_agree.args) (hwi : PySem.W.Codec.withinAll PySem.Challenge.rw_judgedrules_s04_agree.args a = true)
    (hx : DwAll K H xs (PySem.W.Codec.encAll PySem.Challenge.rw_judgedrules_s04_agree.args a)) :
    spAgree K xs H (fun v H' => Dw K H' v (PySem.Challenge.rw_judgedrules_s04_agree.ret.enc (PySem.W.Codec.app PySem.Challenge.rw_judgedrules_s04_agree.args PySem.Challenge.rw_judgedrules_s04_agree.f a))) fun _ _ _ => False := by
  obtain ⟨m, n, u⟩ := a
  have k := PySem.W.Codec.and_of (show ((PySem.W.Codec.list 0 8192 (PySem.W.Codec.int 0 255)).within m && PySem.W.Codec.withinAll [PySem.W.Codec.list 0 8192 (PySem.W.Codec.int 0 255)] (n, u)) = true from hwi)
  have k2 := PySem.W.Codec.and_of (show ((PySem.W.Codec.list 0 8192 (PySem.W.Codec.int 0 255)).within n && PySem.W.Codec.withinAll [] u) = true from k.2)
  obtain ⟨em, lm⟩ := side_of k.1
  obtain ⟨en, ln⟩ := side_of k2.1
  cases hx with
  | cons h1 hx =>
    cases hx with
    | cons h2 hx =>
      cases hx
      cases h1 with
      | lst q1 d1 =>
        cases h2 with
        | lst q2 d2 =>
          have e1 := ints_dw m _ d1
          have e2 := ints_dw n _ d2
          subst e1 e2
          refine ⟨_, _, ProgramsNeutral.text m, ProgramsNeutral.text n, rfl, ?_, ?_, lm, ln, fun H' l hl => ?_⟩
          · rw [em]; exact q1
          · rw [en]; exact q2
          · exact .lst (SqL.of hl) (dw_ints _)
end Ag

set_option maxRecDepth 100000
set_option maxHeartbeats 2000000
open PySem PySem.W PyProof.Rows
set_option maxRecDepth 100000 in
set_option maxHeartbeats 16000000 in
theorem PySem.Challenge.cw_judgedrules_s04_agree_holds : PySem.Challenge.rw_judgedrules_s04_agree.Holds := by
  w_on; k_headS; (case hw => exact ⟨[.list [], .list []], by decide +kernel, by decide +kernel⟩)
  k_fillS
  refine L2.walk_specK (r := PySem.Challenge.rw_judgedrules_s04_agree) (k := 9) (CX := L2.CX0) (ps := ["a", "b"]) (sp := Ag.spAgree) (by decide +kernel) rfl rfl ⟨rfl, by decide, by decide⟩ (fun w h Y => PySem.W.kIn_of Y) ?F ?S (fun _ _ _ _ z => z)
  case F =>
    intro w mg fa h Y KX G hmg
    refine' Ag.all_mk KX G hmg ?gCV ?gCC ?gCK ?gCB ?a_f0 ?l_f0 ?c_f0 ?k_f0 ?a_f1 ?l_f1 ?c_f1 ?k_f1 ?a_f2 ?l_f2 ?c_f2 ?k_f2 ?a_f3 ?l_f3 ?c_f3 ?k_f3 ?a_f4 ?l_f4 ?c_f4 ?k_f4 ?a_f5 ?l_f5 ?c_f5 ?k_f5 ?a_f6 ?l_f6 ?c_f6 ?k_f6 ?a_f7 ?l_f7 ?c_f7 ?k_f7 ?a_f8 ?l_f8 ?c_f8 ?k_f8 ?a_f9 ?l_f9 ?c_f9 ?k_f9 ?a_f10 ?l_f10 ?c_f10 ?k_f10 ?a_f11 ?l_f11 ?c_f11 ?k_f11 ?a_f12 ?l_f12 ?c_f12 ?k_f12 ?a_f13 ?l_f13 ?c_f13 ?k_f13 ?a_f14 ?l_f14 ?c_f14 ?k_f14 ?a_f15 ?l_f15 ?c_f15 ?k_f15 ?a_f16 ?l_f16 ?c_f16 ?k_f16 ?a_f17 ?l_f17 ?c_f17 ?k_f17 ?a_f18 ?l_f18 ?c_f18 ?k_f18 ?a_f19 ?l_f19 ?c_f19 ?k_f19 ?a_f20 ?l_f20 ?c_f20 ?k_f20 ?a_f21 ?l_f21 ?c_f21 ?k_f21 ?a_f22 ?l_f22 ?c_f22 ?k_f22 ?a_f23 ?l_f23 ?c_f23 ?k_f23 ?a_f24 ?l_f24 ?c_f24 ?k_f24 ?a_f25 ?l_f25 ?c_f25 ?k_f25 ?a_m0 ?i_m0 ?l_m0 ?c_m0 ?k_m0 ?a_m1 ?i_m1 ?l_m1 ?c_m1 ?k_m1 ?a_m2 ?i_m2 ?l_m2 ?c_m2 ?k_m2 ?a_m3 ?i_m3 ?l_m3 ?c_m3 ?k_m3 ?a_m4 ?i_m4 ?l_m4 ?c_m4 ?k_m4 ?a_m5 ?i_m5 ?l_m5 ?c_m5 ?k_m5 ?a_m6 ?i_m6 ?l_m6 ?c_m6 ?k_m6 ?a_m7 ?i_m7 ?l_m7 ?c_m7 ?k_m7 ?a_m8 ?i_m8 ?l_m8 ?c_m8 ?k_m8 ?a_m9 ?i_m9 ?l_m9 ?c_m9 ?k_m9 ?pgCV ?hdCV ?poCV ?saCV ?mkCV ?kcCV ?nCV_tag ?nCV_place ?nCV_many ?nCV_low ?nCV_codes ?nCV_names ?nCV_members ?pgCC ?hdCC ?poCC ?saCC ?mkCC ?kcCC ?nCC_data ?nCC_at ?pgCK ?hdCK ?poCK ?saCK ?mkCK ?kcCK ?nCK_rows ?nCK_numbers ?nCK_agreed ?nCK_sorts ?nCK_bases ?z_len ?z_ord ?z_range ?z_list ?z_tuple ?z_zip ?v_tNum ?v_tByt ?v_tTxt ?v_tLst ?v_tRec ?v_tMom ?v_tId ?v_deepest ?v_lNum ?v_lName ?v_great ?v_none ?v_nothing ?v_lVal ?v_tooLong ?v_notTold ?v_notTaken ?v_notAgreed ?v_small ?v_large ?v_figures ?gKW ?xKW ?wKW ?gPK ?xPK ?wPK ?xB ?saB ?nB ?aB ?tB ?lB ?cB ?kB ?eB ?yB ?hB ?iB ?sB
    (case gCV => k_is); (case gCC => k_is); (case gCK => k_is); (case gCB => k_is); (case a_f0 => k_is); (case l_f0 => k_is)
    (case c_f0 => k_is); (case k_f0 => k_is); (case a_f1 => k_is); (case l_f1 => k_is); (case c_f1 => k_is); (case k_f1 => k_is)
    (case a_f2 => k_is); (case l_f2 => k_is); (case c_f2 => k_is); (case k_f2 => k_is); (case a_f3 => k_is); (case l_f3 => k_is)
    (case c_f3 => k_is); (case k_f3 => k_is); (case a_f4 => k_is); (case l_f4 => k_is); (case c_f4 => k_is); (case k_f4 => k_is)
    (case a_f5 => k_is); (case l_f5 => k_is); (case c_f5 => k_is); (case k_f5 => k_is); (case a_f6 => k_is); (case l_f6 => k_is)
    (case c_f6 => k_is); (case k_f6 => k_is); (case a_f7 => k_is); (case l_f7 => k_is); (case c_f7 => k_is); (case k_f7 => k_is)
    (case a_f8 => k_is); (case l_f8 => k_is); (case c_f8 => k_is); (case k_f8 => k_is); (case a_f9 => k_is); (case l_f9 => k_is)
    (case c_f9 => k_is); (case k_f9 => k_is); (case a_f10 => k_is); (case l_f10 => k_is); (case c_f10 => k_is); (case k_f10 => k_is)
    (case a_f11 => k_is); (case l_f11 => k_is); (case c_f11 => k_is); (case k_f11 => k_is); (case a_f12 => k_is); (case l_f12 => k_is)
    (case c_f12 => k_is); (case k_f12 => k_is); (case a_f13 => k_is); (case l_f13 => k_is); (case c_f13 => k_is); (case k_f13 => k_is)
    (case a_f14 => k_is); (case l_f14 => k_is); (case c_f14 => k_is); (case k_f14 => k_is); (case a_f15 => k_is); (case l_f15 => k_is)
    (case c_f15 => k_is); (case k_f15 => k_is); (case a_f16 => k_is); (case l_f16 => k_is); (case c_f16 => k_is); (case k_f16 => k_is)
    (case a_f17 => k_is); (case l_f17 => k_is); (case c_f17 => k_is); (case k_f17 => k_is); (case a_f18 => k_is); (case l_f18 => k_is)
    (case c_f18 => k_is); (case k_f18 => k_is); (case a_f19 => k_is); (case l_f19 => k_is); (case c_f19 => k_is); (case k_f19 => k_is)
    (case a_f20 => k_is); (case l_f20 => k_is); (case c_f20 => k_is); (case k_f20 => k_is); (case a_f21 => k_is); (case l_f21 => k_is)
    (case c_f21 => k_is); (case k_f21 => k_is); (case a_f22 => k_is); (case l_f22 => k_is); (case c_f22 => k_is); (case k_f22 => k_is)
    (case a_f23 => k_is); (case l_f23 => k_is); (case c_f23 => k_is); (case k_f23 => k_is); (case a_f24 => k_is); (case l_f24 => k_is)
    (case c_f24 => k_is); (case k_f24 => k_is); (case a_f25 => k_is); (case l_f25 => k_is); (case c_f25 => k_is); (case k_f25 => k_is)
    (case a_m0 => k_is); (case i_m0 => k_is); (case l_m0 => k_is); (case c_m0 => k_is); (case k_m0 => k_is); (case a_m1 => k_is)
    (case i_m1 => k_is); (case l_m1 => k_is); (case c_m1 => k_is); (case k_m1 => k_is); (case a_m2 => k_is); (case i_m2 => k_is)
    (case l_m2 => k_is); (case c_m2 => k_is); (case k_m2 => k_is); (case a_m3 => k_is); (case i_m3 => k_is); (case l_m3 => k_is)
    (case c_m3 => k_is); (case k_m3 => k_is); (case a_m4 => k_is); (case i_m4 => k_is); (case l_m4 => k_is); (case c_m4 => k_is)
    (case k_m4 => k_is); (case a_m5 => k_is); (case i_m5 => k_is); (case l_m5 => k_is); (case c_m5 => k_is); (case k_m5 => k_is)
    (case a_m6 => k_is); (case i_m6 => k_is); (case l_m6 => k_is); (case c_m6 => k_is); (case k_m6 => k_is); (case a_m7 => k_is)
    (case i_m7 => k_is); (case l_m7 => k_is); (case c_m7 => k_is); (case k_m7 => k_is); (case a_m8 => k_is); (case i_m8 => k_is)
    (case l_m8 => k_is); (case c_m8 => k_is); (case k_m8 => k_is); (case a_m9 => k_is); (case i_m9 => k_is); (case l_m9 => k_is)
    (case c_m9 => k_is); (case k_m9 => k_is); (case pgCV => k_is); (case hdCV => k_is); (case poCV => k_is); (case saCV => k_is)
    (case mkCV => k_is); (case kcCV => k_is); (case nCV_tag => k_is); (case nCV_place => k_is); (case nCV_many => k_is); (case nCV_low => k_is)
    (case nCV_codes => k_is); (case nCV_names => k_is); (case nCV_members => k_is); (case pgCC => k_is); (case hdCC => k_is); (case poCC => k_is)
    (case saCC => k_is); (case mkCC => k_is); (case kcCC => k_is); (case nCC_data => k_is); (case nCC_at => k_is); (case pgCK => k_is)
    (case hdCK => k_is); (case poCK => k_is); (case saCK => k_is); (case mkCK => k_is); (case kcCK => k_is); (case nCK_rows => k_is)
    (case nCK_numbers => k_is); (case nCK_agreed => k_is); (case nCK_sorts => k_is); (case nCK_bases => k_is); (case z_len => k_is); (case z_ord => k_is)
    (case z_range => k_is); (case z_list => k_is); (case z_tuple => k_is); (case z_zip => k_is); (case v_tNum => k_is); (case v_tByt => k_is)
    (case v_tTxt => k_is); (case v_tLst => k_is); (case v_tRec => k_is); (case v_tMom => k_is); (case v_tId => k_is); (case v_deepest => k_is)
    (case v_lNum => k_is); (case v_lName => k_is); (case v_great => k_is); (case v_none => k_is); (case v_nothing => k_is); (case v_lVal => k_is)
    (case v_tooLong => k_is); (case v_notTold => k_is); (case v_notTaken => k_is); (case v_notAgreed => k_is); (case v_small => k_is); (case v_large => k_is)
    (case v_figures => k_is); (case gKW => k_is); (case xKW => k_is); (case wKW => first | rfl | decide +kernel); (case gPK => k_is); (case xPK => k_is)
    (case wPK => first | rfl | decide +kernel); (case xB => k_is); (case saB => k_is); (case nB => k_is); (case aB => k_is); (case tB => k_is)
    (case lB => k_is); (case cB => k_is); (case kB => k_is); (case eB => k_is); (case yB => k_is); (case hB => k_is)
    (case iB => k_is); (case sB => first | rfl | k_is)
  case S => exact fun K H xs a _ hwi _ hx => Ag.asked_S K H xs a hwi hx

