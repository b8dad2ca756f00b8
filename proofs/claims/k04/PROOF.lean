import PyProof.Rows.All
import HandS.Conv
import HandS.Iter
import HandS.ExcOwn
import HandS.ExcInit
import HandS.CallSlots
import HandS.ExcField
import HandS.TryMany
import HandS.ClsMeth
import KE.KExcIs
import HandS.HeadHook2
import HandS.ForMost
import HandS.Rev
import HandS.Style
import HandS.TupAny
import HandS.Wide
import HandS.Deep
import HandS.StrMore
import HandS.Text
import HandS.Codes
import HandS.RaiseMore
import HandS.Flow
import HandS.Comp
import HandS.IsInst
import HandS.Exc
import HandS.WordsExc
import HandS.NoneIn
import HandS.SetFor
import PyProof.Rows.ReprOcc
import HandS.Defaults
import HandS.Ends
import HandS.EndBits
import HandS.Head0
import HandS.Head1
import HandS.Head2
import HandS.HeadEnd
import PySem.Challenge.RW_fourvoices_k04_lines_refused
set_option Elab.async false
set_option linter.all false
set_option maxRecDepth 100000
section
namespace Fv
open PySem PySem.Spec L2
open PyProof.Rows hiding St
section
variable {prog : Program} {w : World} {A : Around} {E : Value → Shared → Prop} {s : Shared}

theorem extend_long {R : Result → Shared → Prop} {r : Addr} {a b c : Int} {t u v : Tok} {n : Nat} (hh : A.handled = none) (hr : IsRange s.heap r a b c t u v) (hsmall : Builtin.Range.small a b c = false)
    (hn : Builtin.Range.rangeSize a b c = n) (hlen : n ≤ 2 ^ 24) (S : Addr) (res : Value) (c₀ : Nat) (hS : s.heap.get? S = some { cls := .type "list", data := .seq #[] c₀ })
    (hR : ∀ h' tk acc' c', (∀ b o, b ≠ S → s.heap.get? b = some o → h'.get? b = some o) → h'.get? S = some { cls := .type "list", dict := none, data := .seq acc' c', slots := #[] } →
      ItemsOf (fun i v => ∃ t, v = .int (a + i * c) t) acc' n → R (.ok (.ret res)) { s with heap := h', toks := tk }) :
    wpAny (model prog w) A.in1 (Builtin.List.listExtendWith (.ref S) (.ref r) res)
      (fun fin s' => match fin with | .done f => R (.ok f) s' | .again c' => c'.quiet = true ∧ codeAny (model prog w) A c' R s') (fun e s' => R (.error e) s') s := by
  have hSr : S ≠ r := fun e => by cases e; rw [hr] at hS; simp at hS
  have hSlt : S < s.heap.objs.size := Heap.lt_size hS
  have hSI : S ≠ s.heap.objs.size := Nat.ne_of_lt hSlt
  have hSf : S ∉ [s.heap.objs.size] := fun hm => hSI (List.mem_singleton.mp hm)
  have W := Walks.toS (Walks.longrange (prog := prog) (w := w) (A := A.in1) hh s.heap.objs.size a c n)
  have key : ∀ (h : Heap) (c₁ tk : Nat), IsLongIter h s.heap.objs.size (a + ((0 : Nat) : Int) * c) ((n : Int) - ((0 : Nat) : Int)) c → (∀ b o, b ≠ S → s.heap.get? b = some o → h.get? b = some o) →
      h.get? S = some { cls := .type "list", data := .seq #[] c₁ } → codeAny (model prog w) A (.builtin "list.extend.loop" ⟨[.ref S, .ref s.heap.objs.size, res], []⟩) R { s with heap := h, toks := tk } := by
    intro h c₁ tk hit hk hS₁
    refine codeAny_extend_loopS W (by rw [sizeLine_eq]; omega) S hSf res n 0 _ #[] c₁ rfl (Nat.zero_le _) hit hS₁ (ItemsOf.nil _) fun s' acc' c' hm hS' hacc => ?_
    rw [Moved.eq_with hm]
    refine hR s'.heap s'.toks acc' c' (fun b o hb e => hm.heap b o (fun hmem => ?_) (hk b o hb e)) hS' hacc
    rcases List.mem_cons.mp hmem with e' | hmem
    · exact hb e'
    · exact absurd (Heap.lt_size e) (by rw [List.mem_singleton.mp hmem]; exact Nat.lt_irrefl _)
  unfold Builtin.List.listExtendWith
  refine wpAny_bind (wpAny_typeOf (T := "range") ⟨_, hr, rfl⟩ ?_)
  have h1 : Builtin.List.listSameRef (.ref S) (.ref r) = false := by simp [Builtin.List.listSameRef, hSr]
  have h2 : (Value.type "range" == Value.type "list") = false := by decide
  have h3 : (Value.type "range" == Value.type "tuple") = false := by decide
  simp only [h1, h2, h3, Bool.or_false, Bool.false_eq_true, if_false]
  refine wpAny_bind (wpAny_pyIter_longrange hr hsmall ?_)
  refine wpAny_bind (wpAny_holding (wpAny_hint_range (n := n) (Heap.get?_push_of_some _ hr) hn hlen ?_))
  have hit₁ : IsLongIter (s.heap.push { cls := .type "longrange_iterator", data := .fields #[rawInt a, rawInt (Builtin.Range.rangeSize a b c), rawInt c] }) s.heap.objs.size (a + ((0 : Nat) : Int) * c) ((n : Int) - ((0 : Nat) : Int)) c := by
    show IsLongIter _ _ _ _ _; rw [hn]; simpa using Heap.get?_push_size _ rfl
  have hS₁ := Heap.get?_push_of_some { cls := .type "longrange_iterator", data := .fields #[rawInt a, rawInt (Builtin.Range.rangeSize a b c), rawInt c] } hS
  refine wpAny_ite_split (fun _ => ?_) (fun _ => wpAny_pure ⟨plainId_quiet F.plain_extend_loop _, key _ c₀ _ hit₁ (fun b o _ e => Heap.get?_push_of_some _ e) hS₁⟩)
  refine wpAny_bind (wpAny_rule ?_)
  refine wpAny_bind ?_
  show wpAny _ _ (updateSeq S (·.push .none) >>= fun _ => updateSeq S (·.pop)) _ _ _
  refine wpAny_bind (wpAny_updateSeq hS₁ rfl ?_)
  have hS₂ := Heap.get?_update_self (Obj.mapSeq (·.push Value.none)) hS₁ rfl
  refine wpAny_updateSeq (hz := by first | seq_fits | (rw [sizeLine_eq]; decide)) hS₂ rfl ?_
  have hS₃ := Heap.get?_update_self (Obj.mapSeq (·.pop)) hS₂ rfl
  refine wpAny_pure ⟨plainId_quiet F.plain_extend_loop _, key _ _ _ ?_ (fun b o hb e => ?_) hS₃⟩
  · exact (Heap.get?_update_other _ _ hSI).trans ((Heap.get?_update_other _ _ hSI).trans hit₁)
  · exact (Heap.get?_update_other _ _ (Ne.symm hb)).trans ((Heap.get?_update_other _ _ (Ne.symm hb)).trans (Heap.get?_push_of_some _ e))

theorem list_init_long {R : Result → Shared → Prop} {r : Addr} {a b c : Int} {t u v : Tok} {n : Nat} (hh : A.handled = none) (hr : IsRange s.heap r a b c t u v) (hsmall : Builtin.Range.small a b c = false)
    (hn : Builtin.Range.rangeSize a b c = n) (hlen : n ≤ 2 ^ 24) (S : Addr) (hS : s.heap.get? S = some { cls := .type "list", data := .seq #[] })
    (hR : ∀ h' tk acc' c', (∀ b o, b ≠ S → s.heap.get? b = some o → h'.get? b = some o) → h'.get? S = some { cls := .type "list", dict := none, data := .seq acc' c', slots := #[] } →
      ItemsOf (fun i v => ∃ t, v = .int (a + i * c) t) acc' n → R (.ok (.ret .none)) { s with heap := h', toks := tk }) :
    wpAny (model prog w) A.in1 (Builtin.«list.__init__» ⟨[.ref S, .ref r], []⟩)
      (fun fin s' => match fin with | .done f => R (.ok f) s' | .again c' => c'.quiet = true ∧ codeAny (model prog w) A c' R s') (fun e s' => R (.error e) s') s := by
  have hSr : S ≠ r := fun e => by cases e; rw [hr] at hS; simp at hS
  show wpAny _ _ (do let old ← Builtin.List.listItems (.ref S); Builtin.List.listUpdate (.ref S) (fun _ => #[]); letGo old.toList.reverse; Builtin.List.listExtendWith (.ref S) (.ref r) .none) _ _ s
  refine wpAny_bind ?_
  unfold Builtin.List.listItems
  refine wpAny_bind (wpAny_seqItems hS rfl (wpAny_pure ?_))
  show wpAny _ _ (updateSeq S (fun _ => #[]) >>= fun _ => letGo (#[] : Array Value).toList.reverse >>= fun _ => Builtin.List.listExtendWith (.ref S) (.ref r) .none) _ _ s
  refine wpAny_bind (wpAny_updateSeq hS rfl ?_)
  have hS₂ := Heap.get?_update_self (Obj.mapSeq (fun _ => (#[] : Array Value))) hS rfl
  have oth : ∀ b o, b ≠ S → s.heap.get? b = some o → (s.heap.update S (Obj.mapSeq (fun _ => (#[] : Array Value)))).get? b = some o :=
    fun b o hb e => (Heap.get?_update_other _ _ (Ne.symm hb)).trans e
  refine wpAny_bind (wpAny_letGo ?_)
  refine extend_long hh (oth r _ (Ne.symm hSr) hr) hsmall hn hlen S .none _ hS₂ fun h' tk acc' c' hk hS' hacc => ?_
  exact hR h' tk acc' c' (fun b o hb e => hk b o hb (oth b o hb e)) hS' hacc

theorem call_list_long {Q : Value → Shared → Prop} {r : Addr} {a b c : Int} {t u v : Tok} {n : Nat} (hh : A.handled = none) (hr : IsRange s.heap r a b c t u v) (hsmall : Builtin.Range.small a b c = false)
    (hn : Builtin.Range.rangeSize a b c = n) (hlen : n ≤ 2 ^ 24)
    (hQ : ∀ h' tk acc' c', (∀ b o, s.heap.get? b = some o → h'.get? b = some o) →
      h'.get? s.heap.objs.size = some { cls := .type "list", dict := none, data := .seq acc' c', slots := #[] } → ItemsOf (fun i v => ∃ t, v = .int (a + i * c) t) acc' n → Q (.ref s.heap.objs.size) { s with heap := h', toks := tk }) :
    wpAny (model prog w) A (call (.type "list") [.ref r]) Q E s := by
  refine callType_codes (Q₁ := fun obj s₁ => obj = .ref s.heap.objs.size ∧ s₁ = { s with heap := s.heap.push { cls := .type "list", data := .seq #[] } }) F.called_list (F.typeCall_list_1 _) F.entry_list_init
    (code_list_new _ ⟨rfl, rfl⟩) fun obj s₁ h₁ => ?_
  obtain ⟨rfl, rfl⟩ := h₁
  have hS : (s.heap.push { cls := .type "list", data := .seq #[] }).get? s.heap.objs.size = some { cls := .type "list", data := .seq #[] } := Heap.get?_push_size _ rfl
  refine ⟨⟨_, hS, rfl⟩, F.args_list_init_2 _ _, list_init_long (A := A.in1) hh (Heap.get?_push_of_some _ hr) hsmall hn hlen _ hS fun h' tk acc' c' hk hS' hacc => ?_⟩
  exact ⟨rfl, hQ h' tk acc' c' (fun b o e => hk b o (Nat.ne_of_lt (Heap.lt_size e)) (Heap.get?_push_of_some _ e)) hS' hacc⟩

theorem call_list_rg {Q : Value → Shared → Prop} {r : Addr} {a b c : Int} {t u v : Tok} {n : Nat} (hh : A.handled = none) (hr : IsRange s.heap r a b c t u v)
    (hn : Builtin.Range.rangeSize a b c = n) (hlen : n ≤ 2 ^ 24)
    (hQ : ∀ h' tk acc' c', (∀ b o, s.heap.get? b = some o → h'.get? b = some o) →
      h'.get? s.heap.objs.size = some { cls := .type "list", dict := none, data := .seq acc' c', slots := #[] } → ItemsOf (fun i v => ∃ t, v = .int (a + i * c) t) acc' n → Q (.ref s.heap.objs.size) { s with heap := h', toks := tk }) :
    wpAny (model prog w) A (call (.type "list") [.ref r]) Q E s := by
  cases hs : Builtin.Range.small a b c with
  | true => exact call_list_range hh hr hs hn hlen hQ
  | false => exact call_list_long hh hr hs hn hlen hQ
end

section
variable {X : Cx} {tg : Expr} {e : Expr} {te : St → Hp → (Int → Int → Hp → Prop) → Prop}
def tLstRgA (te : St → Hp → (Int → Int → Hp → Prop) → Prop) : TE := fun σ H Q => te σ H fun a b H1 => (b - a).toNat ≤ 2 ^ 24 ∧ ∀ q, H1 q = none → Q (.ref q) (upd H1 q (.lst (rgV a b)))
theorem pe_listRgA {p pos : Pos} (hc : X.calm = true) (hg : Gl X "list") (hm : X.mg "list" = none) (he : PRg X e te) (na : starEach [e] X.env = (false, eval e X.env) :: starEach [] X.env := by rfl) : PE X (.Call (.Name "list" p) [e] [] pos) (tLstRgA te) := by
  refine ⟨fun pins s σ H Q I h => ?_⟩
  refine Call_ (ld_blt I hg hm boot_list (PyProof.Rows.callWith_type1 (args_cons (thn (he pins s σ H _ I h) fun x s1 ⟨r, a, b, t, u, v, H1, ex, hr, I1, ok, q⟩ => args_nil ?_) na) na))
  subst ex
  refine call_list_rg (n := (b - a).toNat) (I1.ok.hd hc) hr (rangeSize_nat a b) ok fun h' tk acc c' hk e' hi => ?_
  refine ⟨.ref s1.heap.objs.size, upd H1 s1.heap.objs.size (.lst (rgV a b)), I1.laid hk (Nat.le_refl _) (show ObjOk X.prog X.w _ _ _ (.lst (rgV a b)) from ⟨?_, acc.toList, c', vals_rg hi, ?_⟩), rfl, q _ (I1.hok.fresh (Nat.le_refl _))⟩
  · rw [rgV_length, sizeLine_eq]; omega
  · rw [Array.toArray_toList]; exact e'

theorem turn_long {P : Program} {w : World} {K : PySem.W.Frag} {tg : Expr} (it : Addr) (lo : Int) (n : Nat) : Turn P w K tg (Itr lo n) [it] it (fun i h => IsLongIter h it (lo + (i : Nat) * 1) ((n : Int) - (i : Nat)) 1) where
  mem := by simp
  obj := fun i h st b hb => by
    have e : b = it := by simpa using hb
    subst e
    exact ⟨_, st, fun v z => by
      have z' : Data.fields _ = Data.cell v := z
      cases z'⟩
  keep := fun i h h' st k => k it (by simp) _ st
  item := by
    intro X hP hw hK hc i pins s σ H E I hf st hg
    subst hP hw hK
    obtain ⟨f0, f1, f2, f3, f4, f5⟩ := hf it (by simp)
    have W := Walks.longrange (prog := X.prog) (w := X.w) (I.ok.hd hc) it lo 1 n
    refine W.item i s _ _ hg st fun v h' tk hv st' kk => ?_
    obtain ⟨t, rfl⟩ := hv
    have I1 : Inv X pins σ H { s with heap := h', toks := tk } := I.turned (fun b o hb e => kk b o (by simpa using hb) e) f0 f1 f3 f4 f5
    refine ⟨_, rfl, go_of (s := { s with heap := h', toks := tk }) (n := "longrange_iterator") st' rfl rfl (by decide) ⟨.int (lo + i), H, I1, ⟨t, ?_⟩, ⟨rfl, rfl⟩, st', fun b hb => (hf b hb).1⟩⟩
    rw [Int.mul_one]
  done := by
    intro X hP hw hK hc i pins s σ H E I hf st hg
    subst hP hw hK
    obtain ⟨f0, f1, f2, f3, f4, f5⟩ := hf it (by simp)
    exact wpAny_pyNext_long_end (I.ok.hd hc) st (by have : n ≤ i := hg; omega) fun h' eb => ⟨rfl, I.turned (t' := s.toks) (fun b o hb e => eb b o hb e) f0 f1 f3 f4 f5⟩
  self := fun _ _ _ _ _ st h => wpAny_pyIter_longiter st h

theorem range_itA {pins : List (Addr × Obj)} {σ : St} {H : Hp} {s : Shared} {R : It → Hp → Prop} {E : Value → Shared → Prop} {lo hi : Int} {t u v : Tok} {tk : Nat} (I : Inv X pins σ H s)
    (q : R (Itr lo (hi - lo).toNat) H) : wpAny (model X.prog X.w) X.A (pyIter (.ref s.heap.objs.size)) (PIE X pins σ tg R) E { s with heap := s.heap.push { cls := .type "range", data := .fields #[.int lo t, .int hi u, .int 1 v] }, toks := tk } := by
  have I1 : Inv X pins σ H { s with heap := s.heap.push { cls := .type "range", data := .fields #[.int lo t, .int hi u, .int 1 v] }, toks := tk } := I.kept fun b o e => Heap.get?_push_of_some _ e
  have e1 : lo + ((0 : Nat) : Int) * 1 = lo := by simp
  have e2 : (((hi - lo).toNat : Nat) : Int) - ((0 : Nat) : Int) = Builtin.Range.rangeSize lo hi 1 := by rw [rangeSize_one]; split <;> omega
  cases hs : Builtin.Range.small lo hi 1 with
  | true =>
    refine wpAny_pyIter_range (IsRange.new ..) hs ?_
    refine ⟨(s.heap.push { cls := .type "range", data := .fields #[.int lo t, .int hi u, .int 1 v] }).objs.size, [(s.heap.push { cls := .type "range", data := .fields #[.int lo t, .int hi u, .int 1 v] }).objs.size], _, _, H, rfl,
      I1.kept (t' := tk) fun b o e => Heap.get?_push_of_some _ e, turn_range _ lo (hi - lo).toNat, ?_, fun b hb => ?_, q⟩
    · show IsRangeIter _ _ (lo + ((0 : Nat) : Int) * 1) ((((hi - lo).toNat : Nat) : Int) - ((0 : Nat) : Int)) 1
      rw [e1, e2]
      exact Heap.get?_push_size _ rfl
    · have e : b = (s.heap.push { cls := .type "range", data := .fields #[.int lo t, .int hi u, .int 1 v] }).objs.size := by simpa using hb
      subst e
      exact I1.fpOk (Nat.le_refl _) (I1.hok.fresh (Nat.le_refl _))
  | false =>
    refine wpAny_pyIter_longrange (IsRange.new ..) hs ?_
    refine ⟨(s.heap.push { cls := .type "range", data := .fields #[.int lo t, .int hi u, .int 1 v] }).objs.size, [(s.heap.push { cls := .type "range", data := .fields #[.int lo t, .int hi u, .int 1 v] }).objs.size], _, _, H, rfl,
      I1.kept (t' := tk) fun b o e => Heap.get?_push_of_some _ e, turn_long _ lo (hi - lo).toNat, ?_, fun b hb => ?_, q⟩
    · show IsLongIter _ _ (lo + ((0 : Nat) : Int) * 1) ((((hi - lo).toNat : Nat) : Int) - ((0 : Nat) : Int)) 1
      rw [e1, e2]
      exact Heap.get?_push_size _ rfl
    · have e : b = (s.heap.push { cls := .type "range", data := .fields #[.int lo t, .int hi u, .int 1 v] }).objs.size := by simpa using hb
      subst e
      exact I1.fpOk (Nat.le_refl _) (I1.hok.fresh (Nat.le_refl _))
def iRngA1 (ta : TA) : TI := fun σ H R => ta σ H fun vs H1 => ∃ j : Int, vs = [.int j] ∧ R (Itr 0 j.toNat) H1
def iRngA2 (ta : TA) : TI := fun σ H R => ta σ H fun vs H1 => ∃ i j : Int, vs = [.int i, .int j] ∧ R (Itr i (j - i).toNat) H1
theorem pi_rangeA1 {a : Expr} {ta : TA} {p pos : Pos} (hg : Gl X "range") (hm : X.mg "range" = none) (ha : PA X [a] ta) (hs : starEach [a] X.env = [(false, eval a X.env)] := by rfl) : PI X tg (.Call (.Name "range" p) [a] [] pos) (iRngA1 ta) := by
  refine ⟨fun pins s σ H R I h => ?_⟩
  refine Call_ (ld_blt I hg hm boot_range (PyProof.Rows.callWith_type1 (thn (ha.run pos pins s σ H _ I h) fun us s1 ⟨vs, H1, I1, r1, q1⟩ => ?_) hs rfl))
  obtain ⟨j, e, q⟩ := q1
  subst e
  cases r1 with
  | cons r rr =>
    cases rr
    obtain ⟨t, rfl⟩ := r
    have q : R (Itr 0 (j - 0).toNat) H1 := by rw [Int.sub_zero]; exact q
    exact call_range_1 (range_itA I1 q)
theorem pi_rangeA2 {a b : Expr} {ta : TA} {p pos : Pos} (hg : Gl X "range") (hm : X.mg "range" = none) (ha : PA X [a, b] ta) (hs : starEach [a, b] X.env = [(false, eval a X.env), (false, eval b X.env)] := by rfl) (hs2 : starEach [b] X.env = [(false, eval b X.env)] := by rfl) :
    PI X tg (.Call (.Name "range" p) [a, b] [] pos) (iRngA2 ta) := by
  refine ⟨fun pins s σ H R I h => ?_⟩
  refine Call_ (ld_blt I hg hm boot_range (PyProof.Rows.callWith_type1 (thn (ha.run pos pins s σ H _ I h) fun us s1 ⟨vs, H1, I1, r1, q1⟩ => ?_) (by rw [hs, hs2]) (by rw [hs2]; rfl)))
  obtain ⟨i, j, e, q⟩ := q1
  subst e
  cases r1 with
  | cons r rr =>
    cases rr with
    | cons r' rr =>
      cases rr
      obtain ⟨t, rfl⟩ := r
      obtain ⟨t', rfl⟩ := r'
      exact call_range_2 (range_itA I1 q)
end
end Fv
end
section
set_option maxHeartbeats 4000000
namespace FvX
open PySem PySem.Spec L2
open PyProof.Rows hiding St
/-- at a: an exception that was caught, of the class cls, its dict at d -/
def exk (a : Addr) (cls : Value) (d : Option Addr) : HO := .ext fun h => ∃ oe vs, h.get? a = some oe ∧ Zc cls d oe ∧ oe.data = .fields vs
theorem exk_ok {P : Program} {w : World} {H : Hp} {h : Heap} {a : Addr} {cls : Value} {d : Option Addr} {oe : Obj} {vs : Array Value} (he : h.get? a = some oe) (hz : Zc cls d oe) (hd : oe.data = .fields vs) : ObjOk P w H h a (exk a cls d) :=
  ⟨⟨oe, vs, he, hz, hd⟩, ⟨_, he⟩, fun _ _ ⟨oe, vs, e, z, d⟩ k => ⟨oe, vs, k _ e, z, d⟩⟩
theorem exk_at {P : Program} {w : World} {H : Hp} {h : Heap} {a : Addr} {cls : Value} {d : Option Addr} (hok : HOk P w H h) (he : H a = some (exk a cls d)) : ∃ oe vs, h.get? a = some oe ∧ Zc cls d oe ∧ oe.data = .fields vs := by
  have x : ObjOk P w H h a (.ext fun h => ∃ oe vs, h.get? a = some oe ∧ Zc cls d oe ∧ oe.data = .fields vs) := hok a _ he
  exact x.1
section
variable {X : Cx} {pins : List (Addr × Obj)} {σ : St} {H : Hp} {s : Shared} {a : Addr}
/-- an object that stands is known from here on -/
theorem keepE {o : HO} (I : Inv X pins σ H s) (n0 : X.s_0.heap.get? a = none) (na : H a = none) (nL : a ≠ X.env.locals) (nC : ∀ x c, X.env.cells.lookup x = some c → c ≠ a) (np : ∀ p ∈ X.pn ++ pins, p.1 ≠ a) (new : ObjOk X.prog X.w (upd H a o) s.heap a o) : Inv X pins σ (upd H a o) s :=
  ⟨I.ok, I.os, I.bare, ⟨I.base.keep, I.base.slot, fun b ob e n hx => by
      have hb : b ≠ a := fun z => by rw [z, n0] at e; cases e
      rw [upd_ne hb]
      exact I.base.free b ob e n hx, I.base.there, fun b xs e => by
      have q := I.base.tups b xs e
      rw [upd_ne (ne_of_none q na)]
      exact q, fun b o u e => by
      have q := I.base.frzs b o u e
      rw [upd_ne (ne_of_none q na)]
      exact q, fun b ps e => by
      obtain ⟨more, q⟩ := I.base.tbls b ps e
      exact ⟨more, by rw [upd_ne (ne_of_none q na)]; exact q⟩⟩, I.loc, I.cell, by rw [upd_ne (Ne.symm nL)]; exact I.free, fun x c e => by rw [upd_ne (nC x c e)]; exact I.freeC x c e, fun p hp => by
      obtain ⟨p1, p2, p3⟩ := I.pin p hp
      exact ⟨p1, by rw [upd_ne (np p hp)]; exact p2, p3⟩, fun b ob e => by
      by_cases hb : b = a
      · subst hb
        rw [upd_same] at e
        cases e
        exact new
      · rw [upd_ne hb] at e
        exact (I.hok b ob e).stay (fun _ _ _ q => q) (fun c hc => by rw [upd_ne (ne_of_none hc na)]; exact hc) fun c xs hc => by rw [upd_ne (ne_of_none hc na)]; exact hc, I.len⟩
end
abbrev Ts := Addr → Value → Option Addr → TS
/-- what the clauses wish: each with its name's slot -/
def wKeep (K : PySem.W.Frag) (Wout : WX) (D : Ends) : List (Value × Nat × Ts) → WX
  | [] => Wout
  | (c, i, ts) :: r => fun cls d σ H => ∃ b, PySem.W.exmOne K cls c = some b ∧
      (b = true → ∀ a, H a = none → ts a cls d { nx := fun σ' H' => D.nx (σ'.set i none) (upd H' a (exk a cls d)), rt := fun _ _ => False, bk := fun _ _ => False, ct := fun _ _ => False } (σ.set i (some (.ref a))) H) ∧ (b = false → wKeep K Wout D r cls d σ H)
inductive HdK (X : Cx) : List ExceptHandler → List (Value × Nat × Ts) → Prop
  | nil : HdK X [] []
  | cons {x n : Str} {c : Value} {i : Nat} {ts : Ts} {b₀ : Stmt} {suite : List Stmt} {np pos' : Pos} {hds : List ExceptHandler} {l : List (Value × Nat × Ts)} (hc : Names X x c) (hi : X.N[i]? = some n) (hln : X.env.kindOf n = some .local)
      (hsu : ∀ (a : Addr) (oe : Obj) (cls : Value) (d : Option Addr) (pn : List (Addr × Obj)), Zc cls d oe → (∃ vs, oe.data = .fields vs) → PSs (X.suite a ((a, oe) :: pn)) (b₀ :: suite) (ts a cls d)) (r : HdK X hds l) :
      HdK X (.ExceptHandler (some (.Name x np)) (some n) (b₀ :: suite) pos' :: hds) ((c, i, ts) :: l)
section
variable {X : Cx} {body : List Stmt} {h₀ : ExceptHandler} {hds : List ExceptHandler} {l : List (Value × Nat × Ts)} {pos : Pos} {tb : WX → TS} {Wout : WX}
theorem ps_try_keep (hs : X.stack = X.env :: X.outer) (hf : X.env.frame = some X.env.locals) (hex : X.ex = []) (hN : X.N.Nodup) (tk : Takes X Wout)
    (hb : ∀ (W : WX) (pn : List (Addr × Obj)) (xe : Value → Shared → Prop), Takes (X.tr pn xe) W → PassesOwn (model X.prog X.w) X.A X.env xe → PSs (X.tr pn xe) body (tb W))
    (hh : HdK X (h₀ :: hds) l) : PS X (.Try body (h₀ :: hds) [] [] pos) (fun D σ H => tb (wKeep X.K Wout D l) D σ H) := by
  refine ⟨fun pins s σ H D I h => ?_⟩
  have ok := I.ok
  have hfr : X.A.frames = some (X.env :: X.outer) := by rw [ok.frames, hs]
  refine wpAny_Try_except ?_
  refine wpAny_mono ((hb (wKeep X.K Wout D l) (X.pn ++ pins) (fun e s₁ => wpAny (model X.prog X.w) X.A (noteFrame e X.env) (fun _ s₂ => wpAny (model X.prog X.w) X.A (setFlight e none) (fun _ s₃ =>
    wpAny (model X.prog X.w) X.A (handleBy e X.env (h₀ :: hds)) (SP X pins D) X.xe s₃) X.xe s₂) X.xe s₁) (fun u s' xx => ?_) PassesOwn.looking).run [] s σ H D (I.toTry _) h) (fun f s1 hsp => ?_) (fun e s1 he => he)
  · -- the catch
    obtain ⟨a, B, sI, pins', σ', H', cls, d, rfl, J', nb, up, sky, na, os, ag, w⟩ := xx
    have J : Inv X pins σ' H' sI := J'.ofTry ok
    have sky' : Sky B (X.env :: X.outer) a (Zc cls d) X.env.locals s'.heap := by rw [← hs]; exact sky
    show wpAny (model X.prog X.w) X.A (noteFrame (.ref a) X.env) _ _ _
    refine Sky.land Zc.steady hfr hf sky' fun h3 fl3 up3 => ?_
    have J3 : Inv X pins σ' H' { s' with heap := h3 } := J.landed nb fl3.1 (up.trans up3) os ag
    obtain ⟨oe3, vs3, he3, hz3, hd3⟩ := fl3.there
    have notFr : ∀ {h : Heap} {o : Obj} {vs : Array Value}, h.FunFrames B (X.env :: X.outer) → h.get? a = some o → o.data = .fields vs → a ∉ frs (X.env :: X.outer) := fun {h o vs} ff e dd hm => by
      obtain ⟨_, o', e', hnf⟩ := ff.mem hm
      rw [e] at e'; cases e'
      exact hnf _ dd
    have nfr := notFr fl3.2.2.1 he3 hd3
    have nL : a ≠ X.env.locals := fun z => nfr (List.mem_filterMap.mpr ⟨X.env, List.mem_cons_self, by rw [hf, z]⟩)
    have nF : a ∉ X.fs := fun hm => by
      obtain ⟨e, he, q⟩ := List.mem_filterMap.mp hm
      exact nfr (List.mem_filterMap.mpr ⟨e, List.mem_cons_of_mem _ he, q⟩)
    have nI : sI.heap.get? a = none := by
      cases e : sI.heap.get? a with
      | none => rfl
      | some o =>
        have e2 := nb a o e (by rw [hs]; exact nfr)
        rw [fl3.2.1] at e2
        cases e2
    have n0 : X.s_0.heap.get? a = none := by
      cases e : X.s_0.heap.get? a with
      | none => rfl
      | some o =>
        obtain ⟨o', e2⟩ := J.base.there a o e (by rw [hex]; exact List.not_mem_nil)
        rw [nI] at e2
        cases e2
    have np : ∀ p ∈ X.pn ++ pins, p.1 ≠ a := fun p hp z => by
      have e := (J.pin p hp).1
      rw [z, nI] at e
      cases e
    have S3 := J3.suite he3 hd3 na nL nF
    have go : ∀ {hds' : List ExceptHandler} {l' : List (Value × Nat × Ts)}, HdK X hds' l' → wKeep X.K Wout D l' cls d σ' H' →
        wpAny (model X.prog X.w) X.A (handleBy (.ref a) X.env hds') (SP X pins D) X.xe { s' with heap := h3 } := by
      intro hds' l' hk
      induction hk with
      | nil =>
        intro w
        refine wpAny_handleBy_nil ?_
        obtain ⟨k1, k2, k3, oe, vs, T, oT, ts', he, hz, hd, h1, hr⟩ := id fl3
        unfold PySem.passOn
        refine wpAny_bind (wpAny_field he hd h1 ?_)
        rw [if_neg (show ¬ ((Value.ref T == Value.none) = true) from by simp)]
        have fin : wpAny (model X.prog X.w) X.A (setFlight (.ref a) X.env.frame) (fun _ s4 => wpAny (model X.prog X.w) X.A (throw (.ref a) : Sem Flow) (SP X pins D) X.xe s4) X.xe { s' with heap := h3 } := by
          rw [hf]
          refine HandSPX.setFlight_upZ fl3 fun h4 hh4 up4 => wpAny_throw (tk _ _ ?_)
          exact ⟨a, B, sI, pins, σ', H', cls, d, rfl, J, nb, (up.trans up3).trans up4, .inr (.inr (by rw [hs]; exact hh4)), na, os, ag, w⟩
        first
          | exact wpAny_bind (wpAny_pure (wpAny_bind fin))
          | exact wpAny_bind fin
      | @cons x n c i ts b₀ suite np' pos' hds2 l2 hc hi hln hsu r ih =>
        intro w
        obtain ⟨b, hb1, hyes, hno⟩ := w
        refine wpAny_handleBy_cons (codeAny_handlers_test ?_) (by intro q; cases q)
        have LT : PySem.W.Looks (model X.prog X.w) h3 (typeOf (.ref a)) cls := fun A Q E s k q => wpAny_typeOf_ref (k _ _ he3) (by rw [hz3.1]; exact q)
        have LM := PySem.W.exm_one (M := model X.prog X.w) (J3.kIn) LT hb1
        have test : ∀ {Q : Value → Shared → Prop} {E : Value → Shared → Prop}, Q c { s' with heap := h3 } → wpAny (model X.prog X.w) (X.A.mark (some (.ref a))) (eval (.Name x np') X.env) Q E { s' with heap := h3 } := fun {Q E} q => by
          obtain ⟨hg, hdbg, hm | ⟨hm, hv, hnn⟩⟩ := hc
          · exact ld_glob (X := X.suite a ((a, oe3) :: (X.pn ++ pins))) S3 hg hm q hdbg
          · exact ld_blt (X := X.suite a ((a, oe3) :: (X.pn ++ pins))) S3 hg hm hv q hnn hdbg
        refine test (LM.here ?_)
        cases b with
        | true =>
          refine codeAny_handlers_suite_as ?_
          refine HandSPX.lands_againZ fl3 fun h4 fl4 up4 => ?_
          have J4 : Inv X pins σ' H' { s' with heap := h4 } := J.landed nb fl4.1 ((up.trans up3).trans up4) os ag
          obtain ⟨oe4, vs4, he4, hz4, hd4⟩ := fl4.there
          have S4 := J4.suite he4 hd4 na nL nF
          refine store_ok (X := X.suite a ((a, oe4) :: (X.pn ++ pins))) (v := .ref a) S4 hN hi (.inl hln) rfl (fun s5 S5 => ?_) (.inr hln)
          refine wpAny_mono ((hsu a oe4 cls d (X.pn ++ pins) hz4 ⟨_, hd4⟩).run [] s5 _ H' _ S5 (hyes rfl a na)) (fun f s6 hsp => ?_) (fun _ _ z => False.elim z)
          cases f with
          | next =>
            obtain ⟨σ6, H6, S6, q6⟩ := hsp
            refine gone_ok (X := X.suite a ((a, oe4) :: (X.pn ++ pins))) S6 hN hi hln fun s7 S7 => ?_
            obtain ⟨p1, p2, p3, p4, p5⟩ := S7.pin (a, oe4) (List.mem_append_left _ List.mem_cons_self)
            have I7 : Inv X pins (σ6.set i none) H6 s7 := S7.unsuite ok
            exact ⟨_, _, keepE I7 n0 p2 p3 (fun y c e z => by
              obtain ⟨v, o, e2, e3⟩ := I7.cell y c e
              rw [z, p1] at e2
              cases e2
              rw [hd4] at e3
              cases e3) np (exk_ok p1 hz4 hd4), q6⟩
          | brk =>
            obtain ⟨σ6, H6, S6, q6⟩ := hsp
            exact q6.elim
          | cont =>
            obtain ⟨σ6, H6, S6, q6⟩ := hsp
            exact q6.elim
          | ret u =>
            obtain ⟨v6, σ6, H6, S6, r6, q6⟩ := hsp
            exact q6.elim
        | false =>
          show wpAny _ X.A (handleBy (.ref a) X.env hds2) _ _ _
          exact ih (hno rfl)
    exact go hh w
  · cases f with
    | next =>
      obtain ⟨σ', H', J', q⟩ := hsp
      exact wpAny_execs_nil ⟨σ', H', J'.ofTry ok, q⟩
    | brk =>
      obtain ⟨σ', H', J', q⟩ := hsp
      exact ⟨σ', H', J'.ofTry ok, q⟩
    | cont =>
      obtain ⟨σ', H', J', q⟩ := hsp
      exact ⟨σ', H', J'.ofTry ok, q⟩
    | ret u =>
      obtain ⟨v, σ', H', J', r, q⟩ := hsp
      exact ⟨v, σ', H', J'.ofTry ok, r, q⟩
end
/-- what is looked at of such a class -/
structure XcC (K : PySem.W.Frag) (C : Addr) : Prop where
  cl : (PySem.W.clsIn K C).isSome = true
  ga : PySem.W.findIn K (.ref C) "__getattribute__" = some (some (.builtin "BaseException.__getattribute__"))
  gg : PySem.W.findIn K (.ref C) "__getattr__" = some none
  sb : PySem.W.subIn K (.ref C) (.type "BaseException") = some true
  ha : PySem.W.findIn K (.ref C) "__class__" = some (some (.builtin "object.__class__"))
  hn : PySem.W.specialIn K (.builtin "object.__class__") "__get__" = some (some (.builtin "getset_descriptor.__get__"))
  ht : PySem.W.takesIn K (.builtin "object.__class__") = some true
  hm : PySem.W.mroIn K C (.type "object") = some true
  hd : PySem.W.hasDictIn K C = true
def xcB (K : PySem.W.Frag) (C : Addr) : Bool := (PySem.W.clsIn K C).isSome && (decide (PySem.W.findIn K (.ref C) "__getattribute__" = some (some (.builtin "BaseException.__getattribute__"))) && (decide (PySem.W.findIn K (.ref C) "__getattr__" = some none) &&
  (decide (PySem.W.subIn K (.ref C) (.type "BaseException") = some true) && (decide (PySem.W.findIn K (.ref C) "__class__" = some (some (.builtin "object.__class__"))) && (decide (PySem.W.specialIn K (.builtin "object.__class__") "__get__" = some (some (.builtin "getset_descriptor.__get__"))) &&
  (decide (PySem.W.takesIn K (.builtin "object.__class__") = some true) && (decide (PySem.W.mroIn K C (.type "object") = some true) && PySem.W.hasDictIn K C)))))))
theorem xcB_ok {K : PySem.W.Frag} {C : Addr} (h : xcB K C = true) : XcC K C := by
  unfold xcB at h
  simp only [Bool.and_eq_true, decide_eq_true_eq] at h
  obtain ⟨h1, h2, h3, h4, h5, h6, h7, h8, h9⟩ := h
  exact ⟨h1, h2, h3, h4, h5, h6, h7, h8, h9⟩
theorem inst_of {X : Cx} {pins : List (Addr × Obj)} {σ : St} {H : Hp} {s : Shared} {a C d : Addr} {fs : List (Str × V)} (I : Inv X pins σ H s) (ea : H a = some (exk a (.ref C) (some d))) (ed : H d = some (.xd fs)) :
    ∃ oe od mA, PySem.W.InstAt s.heap a oe C (some od) ∧ s.heap.get? d = some od ∧ s.heap.Ns1 d mA ∧ ∀ f, RelO (fs.lookup f) (mA f) := by
  obtain ⟨oe, vs, he, hz, hd⟩ := exk_at I.hok ea
  have hx : ObjOk X.prog X.w H s.heap d (.xd fs) := I.hok d _ ed
  obtain ⟨mA, hns, hr⟩ := hx
  obtain ⟨od, es, ep, ho, h2⟩ := id hns
  exact ⟨oe, od, mA, ⟨he, hz.1, by unfold PySem.W.notCls; rw [hd] <;> rfl, by rw [hz.2]; exact ho⟩, ho, hns, hr⟩
/-- isinstance(e, c) -/
def rIsK (K : PySem.W.Frag) : List V → Hp → VK → Prop := fun xs H Q => ∃ (a C d : Addr) (fs : List (Str × V)) (c : V) (cv : Value) (b : Bool), xs = [.ref a, c] ∧ H a = some (exk a (.ref C) (some d)) ∧ H d = some (.xd fs) ∧ XcC K C ∧ (∀ u, RelV c u → u = cv) ∧ PySem.W.kitOne K (.ref C) cv = some b ∧ Q (.bl b) H
theorem call_isK {X : Cx} : CallR X (.builtin "isinstance") (rIsK X.K) := by
  intro pins s σ H xs us Q I r h
  obtain ⟨a, C, d, fs, c, cv, b, rfl, ea, ed, T, hcv, e, q⟩ := h
  cases r with
  | cons rx rr =>
    cases rr with
    | cons rt rr =>
      cases rr
      cases rx
      have ec := hcv _ rt
      subst ec
      obtain ⟨oe, od, _, J, _⟩ := inst_of I ea ed
      exact PySem.W.kia_one (PySem.W.kitx_exc T.cl T.ga T.gg T.sb T.ha T.hn T.ht T.hm) I.kIn J e (fun z => nomatch z) fun tk => ⟨.bl b, H, I.kept (t' := tk) fun _ _ z => z, rfl, q⟩
/-- e.f -/
def tXk (K : PySem.W.Frag) (f : Str) (te : TE) : TE := fun σ H Q => te σ H fun x H1 => ∃ (a C d : Addr) (fs : List (Str × V)) (v : V), x = .ref a ∧ H1 a = some (exk a (.ref C) (some d)) ∧ H1 d = some (.xd fs) ∧ XcC K C ∧ PySem.W.findIn K (.ref C) f = some none ∧ fs.lookup f = some v ∧ Q v H1
theorem pe_xk {X : Cx} {e : Expr} {te : TE} {pos : Pos} {n : Str} (he : PE X e te) (hb : attributeBase e n X.env (eval e X.env) = eval e X.env) : PE X (.Attribute e n pos) (tXk X.K n te) := by
  refine ⟨fun pins s σ H Q I h => ?_⟩
  refine attr_of hb (thn (he.run pins s σ H _ I h) fun u s1 hh => ?_)
  obtain ⟨x, H1, I1, rx, a, C, d, fs, v, ex, ea, ed, T, hno, l, q⟩ := hh
  subst ex
  obtain rfl : u = Value.ref a := rx
  obtain ⟨oe, od, mA, J, ho, hns, hr⟩ := inst_of I1 ea ed
  obtain ⟨od', ho', hl⟩ := lookIn_ns hns
  rw [ho] at ho'
  cases ho'
  obtain ⟨u, hu, ru⟩ := RelO.some_of (v := v) (o := mA n) (by rw [← l]; exact hr n)
  exact HandSPX.exc_get I1.kIn J T.ga T.gg T.sb (PySem.W.findObj_own T.hd hno rfl (by rw [hl, hu])) (handed_of ru) ⟨v, H1, I1.tok _, ru, q⟩
/-- what is looked at for ScoreError.__init__(self, ..) -/
structure SiC (K : PySem.W.Frag) (C : Addr) : Prop where
  rd : PySem.W.readsIn K C (.type "type") = true
  ga : PySem.W.specialIn K (.ref C) "__getattribute__" = some (some (.builtin "type.__getattribute__"))
  fi : PySem.W.findCls K (.ref C) (.type "type") "__init__" = some (.val (.builtin "ValueError.__init__"))
def siB (K : PySem.W.Frag) (C : Addr) : Bool := PySem.W.readsIn K C (.type "type") && (decide (PySem.W.specialIn K (.ref C) "__getattribute__" = some (some (.builtin "type.__getattribute__"))) &&
  (match PySem.W.findCls K (.ref C) (.type "type") "__init__" with
  | some (.val (.builtin b)) => decide (b = "ValueError.__init__")
  | _ => false))
theorem siB_ok {K : PySem.W.Frag} {C : Addr} (h : siB K C = true) : SiC K C := by
  unfold siB at h
  rw [Bool.and_eq_true, Bool.and_eq_true] at h
  obtain ⟨h1, h2, h3⟩ := h
  refine ⟨h1, of_decide_eq_true h2, ?_⟩
  split at h3
  · rename_i b e
    rw [e, of_decide_eq_true h3]
  · cases h3
section
variable {X : Cx} {o e : Expr} {es : List Expr} {ta : TE} {t : TA} {CS : Addr} {apos pos : Pos}
theorem pe_seinit {pl : Sem Bool} (he : PE X o ta) (r : SiC X.K CS) (ha : PA X (e :: es) t) (hst : starEach (e :: es) X.env = (false, eval e X.env) :: starEach es X.env) (hpl : (backTo pos (starEach es X.env)).any (·.1) = false)
    (ht : eval (.Call (.Attribute o "__init__" apos) (e :: es) [] pos) X.env = (do
      let ov ← eval o X.env
      standAt apos.atName
      let (f, first) ← holding [ov] (getMethod ov "__init__" pl)
      callWith pos f first (backTo pos (starEach (e :: es) X.env)) (backToKw pos (keywordEach [] X.env)))) :
    PE X (.Call (.Attribute o "__init__" apos) (e :: es) [] pos) (fun σ H Q => ta σ H fun x H1 => x = .ref CS ∧ t σ H1 fun vs H2 => ∃ (a C : Addr) (ws : List V), vs = .ref a :: ws ∧ ws.length ≤ 1000 ∧ OexC X.K C ∧ H2 a = some (exo a C none) ∧ Q .non H2) := by
  refine ⟨fun pins s σ H Q I h => ?_⟩
  refine PySem.W.methodCall_KW (pl := pl) (thn (he.run pins s σ H _ I h) fun u s1 ⟨x, H1, I1, rx, ex, q⟩ => ?_) ht
  subst ex
  obtain rfl : u = Value.ref CS := rx
  refine PySem.W.method_cls I1.kIn r.ga (PySem.W.cls_value I1.kIn r.rd r.fi (by decide +kernel) ?_)
  show wpAny _ _ (callWith pos (Value.builtin "ValueError.__init__") [] (backTo pos (starEach (e :: es) X.env)) []) _ _ _
  refine PyProof.Rows.callWith_method1 (thn (ha.run pos pins _ σ H1 _ (I1.tok _) q) fun us s2 ⟨vs, H2, I2, r1, a, C, ws, ev, hl, T, ea, q2⟩ => ?_) hst hpl
  subst ev
  cases r1 with
  | @cons _ u0 _ ur ra rw' =>
    obtain rfl : u0 = Value.ref a := ra
    have hlen : ur.length ≤ sizeLine := by
      rw [← Paired.length rw', sizeLine_eq]
      omega
    exact oinit_ok T I2 ea hlen fun s' J => ⟨.non, H2, J, rfl, q2⟩
end
/-- what the __init__ of an exception of one field is worth -/
def spX1 (K : PySem.W.Frag) (f : Str) : Sp := fun us H Q E => ∃ (a C : Addr) (v : V), us = [.ref a, v] ∧ OexC K C ∧ PySem.W.findIn K (.ref C) f = some none ∧ H a = some (exo a C none) ∧ ∀ d, H d = none → d ≠ a → Q .non (upd (upd H d (exd d [(f, v)])) a (exo a C (some d)))
/-- .. of two -/
def spX2 (K : PySem.W.Frag) (f f2 : Str) : Sp := fun us H Q E => ∃ (a C : Addr) (v v2 : V), us = [.ref a, v, v2] ∧ OexC K C ∧ PySem.W.findIn K (.ref C) f = some none ∧ PySem.W.findIn K (.ref C) f2 = some none ∧ H a = some (exo a C none) ∧ ∀ d, H d = none → d ≠ a → Q .non (upd (upd H d (exd d [(f2, v2), (f, v)])) a (exo a C (some d)))
end FvX
end
section
set_option maxHeartbeats 4000000
namespace FvX
open PySem PySem.Spec L2
open PyProof.Rows hiding St
def oexB (K : PySem.W.Frag) (C : Addr) : Bool := (match K.lookup C with
  | some ⟨.type "type", _, .cls cd, sl⟩ => (match cd.mro, sl.toList with
    | .ref C' :: bm, [_, _, _, _, some (.builtin n), _] => C' == C && (n == "ValueError.__new__" && (!cd.hasDel && (cd.hasDict && PySem.HandSPX.refsVE bm)))
    | _, _ => false)
  | _ => false) && (decide (PySem.W.findIn K (.ref C) "__setattr__" = some (some (.builtin "object.__setattr__"))) && (decide (PySem.W.subIn K (.ref C) (.type "BaseException") = some true) && (decide (PySem.W.typeIn K (.ref C) = some (.type "type")) && PySem.W.keepIn K (.ref C))))
theorem oexB_ok {K : PySem.W.Frag} {C : Addr} (h : oexB K C = true) : OexC K C := by
  unfold oexB at h
  rw [Bool.and_eq_true, Bool.and_eq_true, Bool.and_eq_true, Bool.and_eq_true] at h
  obtain ⟨h1, h2, h3, h4, h5⟩ := h
  refine ⟨?_, of_decide_eq_true h2, of_decide_eq_true h3, of_decide_eq_true h4, h5⟩
  split at h1
  · rename_i dd cd sl ho
    split at h1
    · rename_i C' bm k0 k1 k2 k3 n k5 hm hs
      simp only [Bool.and_eq_true, beq_iff_eq, Bool.not_eq_true'] at h1
      obtain ⟨rfl, rfl, hdel, hdct, hr⟩ := h1
      obtain ⟨nm, bs, mro, ns, qn, hd, sn, sub, ab, col, del⟩ := cd
      dsimp only at hm hdel hdct
      subst hm hdel hdct
      have hsl : sl = #[k0, k1, k2, k3, some (.builtin "ValueError.__new__"), k5] := by
        obtain ⟨l⟩ := sl
        simp only at hs
        rw [hs]
      subst hsl
      exact ⟨nm, qn, ns, bs, bm, sn, sub, ab, col, dd, k0, k1, k2, k3, k5, ho, hr⟩
    · cases h1
  · cases h1
/-- the classes' fields -/
def xTab : List (String × List String) := [("BadRow", ["row"]), ("BadLine", ["place"]), ("TooWide", ["weight"]), ("Apart", ["voice"]), ("Crowded", ["many"]), ("NoNumber", ["number"]), ("Unlike", ["place"]), ("Unfit", ["place", "row"]), ("NoLine", ["long"]), ("NoName", ["name"])]
def xNs (c : String) : List String := (xTab.lookup c).getD []
def isxB (z n : String) : Bool := n == z || (n == "ScoreError" || n == "ValueError")
def xcv (K : PySem.W.Frag) (n : String) : Value := if n = "ValueError" then .type "ValueError" else .ref (He.ga K (Str.ofString n))
structure XB (K : PySem.W.Frag) (mg : Str → Option Value) (xs xn : List String) : Prop where
  gl : ∀ z ∈ xs, mg (Str.ofString z) = some (.ref (He.ga K (Str.ofString z)))
  xc : ∀ z ∈ xs, XcC K (He.ga K (Str.ofString z))
  ox : ∀ z ∈ xs, OexC K (He.ga K (Str.ofString z))
  no : ∀ z ∈ xs, ∀ n ∈ xNs z, PySem.W.findIn K (.ref (He.ga K (Str.ofString z))) (Str.ofString n) = some none
  xm : ∀ z ∈ xs, ∀ y ∈ xs, PySem.W.exmOne K (.ref (He.ga K (Str.ofString z))) (.ref (He.ga K (Str.ofString y))) = some (decide (z = y))
  nm : ∀ n ∈ xn, (n ≠ "ValueError" ∧ mg (Str.ofString n) = some (.ref (He.ga K (Str.ofString n)))) ∨ (n = "ValueError" ∧ mg (Str.ofString n) = none)
  xi : ∀ z ∈ xs, ∀ n ∈ xn, PySem.W.kitOne K (.ref (He.ga K (Str.ofString z))) (xcv K n) = some (isxB z n)
  sg : mg "ScoreError" = some (.ref (He.ga K "ScoreError"))
  si : SiC K (He.ga K "ScoreError")
def gloX (K : PySem.W.Frag) (z : Str) : Bool := He.eqO (PySem.W.nsIn K mainGlobals z) (some (some (.ref (He.ga K z))))
def xbB (xs xn : List String) (K : PySem.W.Frag) : Bool :=
  (xs.all fun z => gloX K (Str.ofString z) && (xcB K (He.ga K (Str.ofString z)) && (oexB K (He.ga K (Str.ofString z)) && ((xNs z).all (fun n => He.eqO (PySem.W.findIn K (.ref (He.ga K (Str.ofString z))) (Str.ofString n)) (some none)) &&
    (xs.all (fun y => decide (PySem.W.exmOne K (.ref (He.ga K (Str.ofString z))) (.ref (He.ga K (Str.ofString y))) = some (decide (z = y)))) && xn.all (fun n => decide (PySem.W.kitOne K (.ref (He.ga K (Str.ofString z))) (xcv K n) = some (isxB z n)))))))) &&
  (xn.all (fun n => if n = "ValueError" then He.eqO (PySem.W.nsIn K mainGlobals (Str.ofString n)) (some none) else gloX K (Str.ofString n)) && (gloX K "ScoreError" && siB K (He.ga K "ScoreError")))
theorem xbB_ok {K : PySem.W.Frag} {h : Heap} {mg : Str → Option Value} {xs xn : List String} (X : K.In h) (G : h.Ns mainGlobals mg) (e : xbB xs xn K = true) : XB K mg xs xn := by
  unfold xbB at e
  rw [Bool.and_eq_true, Bool.and_eq_true, Bool.and_eq_true] at e
  obtain ⟨e1, e2, e3, e4⟩ := e
  rw [List.all_eq_true] at e1 e2
  have p : ∀ z ∈ xs, _ := fun z hz => by
    have q := e1 z hz
    rw [Bool.and_eq_true, Bool.and_eq_true, Bool.and_eq_true, Bool.and_eq_true, Bool.and_eq_true, List.all_eq_true, List.all_eq_true, List.all_eq_true] at q
    exact q
  exact {
    gl := fun z hz => PySem.W.mg_of X G (He.eqO_ok (p z hz).1)
    xc := fun z hz => xcB_ok (p z hz).2.1
    ox := fun z hz => oexB_ok (p z hz).2.2.1
    no := fun z hz n hn => He.eqO_ok ((p z hz).2.2.2.1 n hn)
    xm := fun z hz y hy => of_decide_eq_true ((p z hz).2.2.2.2.1 y hy)
    nm := fun n hn => by
      have q := e2 n hn
      split at q
      · rename_i hv
        exact .inr ⟨hv, PySem.W.mg_none_of X G (He.eqO_ok q)⟩
      · rename_i hv
        exact .inl ⟨hv, PySem.W.mg_of X G (He.eqO_ok q)⟩
    xi := fun z hz n hn => of_decide_eq_true ((p z hz).2.2.2.2.2 n hn)
    sg := PySem.W.mg_of X G (He.eqO_ok e3)
    si := siB_ok e4 }
/-- none -/
theorem xb_nil {K : PySem.W.Frag} {mg : Str → Option Value} {xn : List String} : ∀ z, ([] : List String).contains z = true → False := fun _ h => nomatch h
end FvX
end
section
namespace Fv
noncomputable section
open PySem

/-- a text: its codes -/
abbrev Tx := List Nat
def tx (s : String) : Tx := s.toList.map Char.toNat
/-- the text of a whole number -/
def itx (i : Int) : Tx := (Str.ofString (toString i)).cps.toList
def intOf (s : Tx) : Option Int := PySem.intText? ⟨s.toArray⟩

/-- plain data -/
inductive D where
  | non | bl (b : Bool) | int (i : Int) | str (s : Tx)
  | lst (xs : List D) | tup (xs : List D)
  | dic (ks vs : List D)
  /-- an instance: its class, its fields' names, their values -/
  | ins (c : String) (ns : List String) (xs : List D)
  /-- the script -/
  | scr (ns : List Int)
  /-- a caught exception of an own class: its class, its fields' names, their values -/
  | exc (c : String) (ns : List String) (xs : List D)

noncomputable instance : DecidableEq D := fun _ _ => Classical.propDecidable _

/-- what an expression gives: data, or a new list that is its asker's own -/
inductive Val where
  | d (x : D) | fr (xs : List D)
def Val.D : Val → D
  | .d x => x
  | .fr xs => .lst xs

inductive R (α : Type) where
  | ok (a : α) | er (c : String) (fs : List D) | bad
@[simp] def R.bind {α β : Type} : R α → (α → R β) → R β
  | .ok a, f => f a
  | .er c fs, _ => .er c fs
  | .bad, _ => .bad
instance : Monad R where
  pure := .ok
  bind := R.bind
@[simp] theorem R.pure_eq {α : Type} (a : α) : (pure a : R α) = .ok a := id rfl
@[simp] theorem R.ok_bind {α β : Type} (a : α) (f : α → R β) : (R.ok a >>= f) = f a := id rfl
@[simp] theorem R.er_bind {α β : Type} (c : String) (fs : List D) (f : α → R β) : ((R.er c fs : R α) >>= f) = .er c fs := id rfl
@[simp] theorem R.bad_bind {α β : Type} (f : α → R β) : ((R.bad : R α) >>= f) = .bad := id rfl

def optR {α β : Type} (o : Option α) (f : α → R β) : R β := match o with
  | some x => f x
  | none => .bad
abbrev LINE : Nat := 16777216
def D.flat : D → Bool
  | .non | .bl _ | .int _ | .str _ => true
  | _ => false
/-- no truths, no objects, n levels of lists and tuples at most -/
def D.cl : Nat → D → Bool
  | _, .non | _, .int _ => true
  | _, .str s => s.all (· < 128) && decide (s.length ≤ LINE)
  | n + 1, .lst xs => xs.all (D.cl n)
  | n + 1, .tup xs => xs.all (D.cl n)
  | _, _ => false
def Val.flat : Val → Bool
  | .d x => x.flat
  | .fr xs => xs.all D.flat
def D.truth : D → R Bool
  | .non => .ok false
  | .bl b => .ok b
  | .int i => .ok (i != 0)
  | .str s => if s.length ≤ LINE then .ok (!s.isEmpty) else .bad
  | .lst xs => .ok (!xs.isEmpty)
  | .tup xs => .ok (!xs.isEmpty)
  | _ => .bad

inductive BOp where
  | add | sub | mul | fdiv | mod | pow
  deriving DecidableEq
inductive COp where
  | eq | ne | lt | le | gt | ge | inn | nin | is | isn
  deriving DecidableEq
def mulOk (i j : Int) : Bool := decide (i.natAbs.log2 + j.natAbs.log2 < 100000000)
def powOk (i j : Int) : Bool := decide (0 ≤ j ∧ j ≤ 1000000 ∧ i.natAbs < 2 ^ 64)
def divOk (j : Int) : Bool := decide (0 < j ∧ j.natAbs.log2 < 9000)
/-- the place of an index among n -/
def ixOf (n : Nat) (i : Int) : Option Nat := if 0 ≤ i then (if i < n then some i.toNat else none) else if 0 ≤ i + n then some (i + n).toNat else none

def binD : BOp → D → D → R Val
  | .add, .int i, .int j => .ok (.d (.int (i + j)))
  | .add, .str a, .str b => if a.length + b.length ≤ LINE then .ok (.d (.str (a ++ b))) else .bad
  | .add, .lst a, .lst b => if a.length + b.length ≤ LINE then .ok (.fr (a ++ b)) else .bad
  | .add, .tup a, .tup b => if a.length + b.length ≤ LINE then .ok (.d (.tup (a ++ b))) else .bad
  | .sub, .int i, .int j => .ok (.d (.int (i - j)))
  | .mul, .int i, .int j => if mulOk i j then .ok (.d (.int (i * j))) else .bad
  | .mul, .lst a, .int j => if a.length * j.toNat ≤ LINE ∧ -(2 ^ 63) ≤ j ∧ j < 2 ^ 63 then .ok (.fr (List.replicate j.toNat a).flatten) else .bad
  | .mul, .str a, .int j => if a.length * j.toNat ≤ LINE ∧ a.length = 1 ∧ 0 ≤ j ∧ j ≤ 10000 then .ok (.d (.str (List.replicate j.toNat a).flatten)) else .bad
  | .fdiv, .int i, .int j => if divOk j then .ok (.d (.int (i / j))) else .bad
  | .mod, .int i, .int j => if 0 < j then .ok (.d (.int (i % j))) else .bad
  | .pow, .int i, .int j => if powOk i j then .ok (.d (.int (i ^ j.toNat))) else .bad
  | _, _, _ => .bad
/-- in place -/
def augD : BOp → D → D → R D
  | .add, .int i, .int j => .ok (.int (i + j))
  | .sub, .int i, .int j => .ok (.int (i - j))
  | _, _, _ => .bad
/-- what == may be asked of -/
def clb : D → Bool
  | .bl _ => true
  | x => x.cl 5
def eqD : D → D → R Bool
  | .bl a, .bl b => .ok (a == b)
  | .bl _, .int _ => .bad
  | .int _, .bl _ => .bad
  | a, b => if clb a && clb b then .ok (decide (a = b)) else .bad
def intsOf : List D → Option (List Int)
  | [] => some []
  | .int i :: r => (intsOf r).map (i :: ·)
  | _ => none
def ltTup (a b : List D) : R Bool := match intsOf a, intsOf b with
  | some x, some y => .ok (HT.lexLt x y)
  | _, _ => .bad
/-- a sign, a text within a text -/
def inTx (a b : Tx) : Bool := !(Builtin.Str.occurrences ⟨b.toArray⟩ ⟨a.toArray⟩ 0 b.length 1).isEmpty
def cmpD : COp → D → D → R Bool
  | .eq, a, b => eqD a b
  | .ne, a, b => do let c ← eqD a b; pure (!c)
  | .lt, .int i, .int j => .ok (decide (i < j))
  | .le, .int i, .int j => .ok (decide (i ≤ j))
  | .gt, .int i, .int j => .ok (decide (j < i))
  | .ge, .int i, .int j => .ok (decide (j ≤ i))
  | .lt, .tup a, .tup b => ltTup a b
  | .inn, .str a, .str b => .ok (inTx a b)
  | .nin, .str a, .str b => .ok (!inTx a b)
  | .inn, a, .lst xs => if a.cl 0 && xs.all (D.cl 0) then .ok (decide (a ∈ xs)) else .bad
  | .nin, a, .lst xs => if a.cl 0 && xs.all (D.cl 0) then .ok (!decide (a ∈ xs)) else .bad
  | .inn, a, .tup xs => if a.cl 0 && xs.all (D.cl 0) then .ok (decide (a ∈ xs)) else .bad
  | .nin, a, .tup xs => if a.cl 0 && xs.all (D.cl 0) then .ok (!decide (a ∈ xs)) else .bad
  | .is, a, .non => .ok (match a with | .non => true | _ => false)
  | .isn, a, .non => .ok (match a with | .non => false | _ => true)
  | .is, .bl a, .bl b => .ok (a == b)
  | .isn, .bl a, .bl b => .ok (!(a == b))
  | _, _, _ => .bad
def subD : D → D → R D
  | .lst xs, .int i => optR ((ixOf xs.length i).bind (xs[·]?)) (fun x => .ok x)
  | .tup xs, .int i => optR ((ixOf xs.length i).bind (xs[·]?)) (fun x => .ok x)
  | .scr ns, .int i => optR ((ixOf ns.length i).bind (ns[·]?)) (fun x => .ok (.int x))
  | .str s, .int i => if s.length ≤ LINE then (optR ((ixOf s.length i).bind (s[·]?)) (fun x => .ok (.str [x]))) else .bad
  | _, _ => .bad
/-- the items from lo to hi -/
def cut {α : Type} (xs : List α) (lo hi : Option Int) : List α := (xs.drop (HT.sIx xs.length 0 lo)).take (HT.sIx xs.length xs.length hi - HT.sIx xs.length 0 lo)
def slcD (x : D) (lo hi : Option Int) : R Val := match x with
  | .scr ns => .ok (.fr ((cut ns lo hi).map .int))
  | .lst xs => .ok (.fr (cut xs lo hi))
  | .str s => if s.length ≤ LINE then .ok (.d (.str (cut s lo hi))) else .bad
  | .tup xs => if HT.sIx xs.length 0 lo = 0 ∧ HT.sIx xs.length xs.length hi = xs.length then .bad else .ok (.d (.tup (cut xs lo hi)))
  | _ => .bad

inductive Bi where
  | len | int | str | abs | min2 | max2 | divmod | tuple | list | sum | all | any
  deriving DecidableEq
def allBl : List D → Option (List Bool)
  | [] => some []
  | .bl b :: r => (allBl r).map (b :: ·)
  | _ => none
def biD : Bi → List D → R Val
  | .len, [.lst xs] => .ok (.d (.int xs.length))
  | .len, [.scr xs] => .ok (.d (.int xs.length))
  | .len, [.tup xs] => .ok (.d (.int xs.length))
  | .len, [.str s] => if s.length ≤ LINE then .ok (.d (.int s.length)) else .bad
  | .int, [.int i] => .ok (.d (.int i))
  | .int, [.bl b] => .ok (.d (.int (if b then 1 else 0)))
  | .int, [.str s] => if s.length ≤ 640 then (optR (intOf s) (fun n => .ok (.d (.int n)))) else .bad
  | .str, [.str s] => .ok (.d (.str s))
  | .str, [.int i] => if i.natAbs.log2 < 1920 then .ok (.d (.str (itx i))) else .bad
  | .abs, [.int i] => .ok (.d (.int (if i < 0 then -i else i)))
  | .min2, [.int i, .int j] => .ok (.d (.int (if j < i then j else i)))
  | .max2, [.int i, .int j] => .ok (.d (.int (if j > i then j else i)))
  | .divmod, [.int i, .int j] => if 0 < j ∧ j < 1073741824 then .ok (.d (.tup [.int (i / j), .int (i % j)])) else .bad
  | .tuple, [.lst xs] => .ok (.d (.tup xs))
  | .tuple, [.tup xs] => .ok (.d (.tup xs))
  | .list, [.lst xs] => .ok (.fr xs)
  | .list, [.tup xs] => .ok (.fr xs)
  | .sum, [.lst xs] => optR (intsOf xs) (fun ns => .ok (.d (.int ns.sum)))
  | .all, [.lst xs] => optR (allBl xs) (fun bs => .ok (.d (.bl (bs.all id))))
  | .any, [.lst xs] => optR (allBl xs) (fun bs => .ok (.d (.bl (bs.any id))))
  | _, _ => .bad
/-- isinstance against a built-in class -/
def tyD : D → Option String
  | .non => some "NoneType"
  | .bl _ => some "bool"
  | .int _ => some "int"
  | .str _ => some "str"
  | .lst _ => some "list"
  | .tup _ => some "tuple"
  | _ => none
def isaT : List String := ["int", "bool", "str", "list", "tuple"]
def isaD (x : D) (t : String) : R Bool := match tyD x with
  | some u => if t ∈ isaT then .ok (u == t || (u == "bool" && t == "int")) else .bad
  | none => .bad

def fldD (cs : List String) (n : String) : D → R D
  | .ins c ns xs => if c ∈ cs then optR ((ns.zip xs).lookup n) .ok else .bad
  | _ => .bad
def clsOf (cs : List String) (m : String) : D → R String
  | .ins c ns _ => if c ∈ cs ∧ m ∉ ns then .ok c else .bad
  | _ => .bad
/-- isinstance of a caught exception against its own classes -/
def isxD (cs : List String) (n : String) : D → R Bool
  | .exc c _ _ => if c ∈ cs then .ok (FvX.isxB c n) else .bad
  | _ => .bad
def xflD (cs : List String) (n : String) : D → R D
  | .exc c ns xs => if c ∈ cs ∧ n ∈ FvX.xNs c then optR ((ns.zip xs).lookup n) .ok else .bad
  | _ => .bad
/-- what an __init__ has made -/
def newD (c : String) : Val → R Val
  | .d (.ins c' ns xs) => if c' = c then .ok (.d (.ins c' ns xs)) else .bad
  | _ => .bad
/-- methods of a text -/
inductive M1 where
  | split | join
  deriving DecidableEq
def strsOf : List D → Option (List Tx)
  | [] => some []
  | .str s :: r => (strsOf r).map (s :: ·)
  | _ => none
def m1D : M1 → Tx → D → R Val
  | .split, a, .str b => if b ≠ [] ∧ b.all (· < 256) = true ∧ a.length + 2 ≤ LINE then .ok (.fr ((TL.spl b 0 [] a).map .str)) else .bad
  | .join, a, .lst xs => optR (strsOf xs) fun ys => if (ys.map List.length).sum + ys.length * a.length ≤ LINE then .ok (.d (.str (TL.joinL a ys))) else .bad
  | _, _, _ => .bad

/-- a target: one name, or a tuple of names -/
inductive Tg where
  | one (i : Nat) | tup (is : List Nat)
mutual
inductive Ex where
  | var (i : Nat)
  | cst (x : D)
  | bin (o : BOp) (a b : Ex)
  | neg (a : Ex)
  | nt (a : Ex)
  | cmp (o : COp) (a b : Ex)
  | chn (o p : COp) (a b c : Ex)
  | and (a b : Ex)
  | or (a b : Ex)
  | ite (t a b : Ex)
  | tup (es : Exs)
  | lst (es : Exs)
  | sub (a i : Ex)
  | slc (a lo hi : Ex)
  | slcL (a lo : Ex)
  | slcH (a hi : Ex)
  | call (f : String) (es : Exs)
  | bi (b : Bi) (es : Exs)
  | isa (a : Ex) (c : String)
  | lc (own : List (Str × Nat)) (tg : Tg) (it : It) (c : Ex) (e : Ex)
  | m1 (m : M1) (a b : Ex)
  | rev (a : Ex)
  /-- list(range(b)), list(range(a, b)); a.count(b) -/
  | lrg1 (b : Ex)
  | lrg (a b : Ex)
  | cnt (a b : Ex)
  /-- a field; a method's call: of an instance of one of these classes -/
  | fld (cs : List String) (a : Ex) (n : String)
  | mth (cs : List String) (a : Ex) (m : String) (es : Exs)
  /-- a new instance -/
  | mk (c : String) (es : Exs)
  /-- of a caught exception: isinstance, a field -/
  | isx (cs : List String) (a : Ex) (c : String)
  | xfl (cs : List String) (a : Ex) (n : String)
inductive Exs where
  | nil | cons (e : Ex) (r : Exs)
inductive It where
  | seq (e : Ex)
  | rng (a : Ex)
  | rng2 (a b : Ex)
  | rng3 (a b c : Ex)
  | revs (a : Ex)
  | enum (e : Ex)
end
/-- what an except suite says: y = e, y = e.n, y = "s" -/
inductive Ha where
  | keep | fld (n : String) | txt (s : Tx)
/-- except c as e: .. -/
structure Hd where
  c : String
  e : Nat
  acts : List (Nat × Ha)
mutual
inductive Sm where
  | set (i : Nat) (e : Ex)
  | setT (is : List Nat) (e : Ex)
  | aug (i : Nat) (o : BOp) (e : Ex)
  | app (i : Nat) (e : Ex)
  | put (i : Nat) (k e : Ex)
  | ext (i : Nat) (e : Ex)
  /-- i = j: the list of j's own is i's from here on, j's value is not asked again -/
  | mov (i j : Nat)
  | ifs (t : Ex) (a b : Sms)
  | whl (t : Ex) (b : Sms)
  | for_ (tg : Tg) (it : It) (b : Sms)
  | ret (e : Ex)
  | exp (e : Ex)
  | brk | cnt | pas
  /-- never come to -/
  | nev
  /-- raise c(..) -/
  | rse (c : String) (es : Exs)
  /-- try: x = f(..) except .. -/
  | tryS (x : Nat) (f : String) (es : Exs) (hs : List Hd)
  /-- in an __init__: self.n = e; the base's __init__ -/
  | fst (cs : List String) (n : String) (e : Ex)
  | ini (b : String) (es : Exs)
inductive Sms where
  | nil | cons (s : Sm) (r : Sms)
  /-- the list in slot i is from here on nobody's own -/
  | frz (i : Nat) (r : Sms)
end

inductive Sl where
  | no | fz (x : D) | own (xs : List D)
abbrev Sg := List Sl
def Sg.get (S : Sg) (i : Nat) : R D := match S[i]? with
  | some (.fz x) => .ok x
  | _ => .bad
/-- read where nothing of it is kept -/
def Sg.look (S : Sg) (i : Nat) : R D := match S[i]? with
  | some (.fz x) => .ok x
  | some (.own xs) => .ok (.lst xs)
  | _ => .bad
def Sg.isOwn (S : Sg) (i : Nat) : Bool := match S[i]? with
  | some (.own _) => true
  | _ => false
def wipeS (S : Sg) : List Nat → Sg
  | [] => S
  | v :: vs => (wipeS S vs).set v .no
def setAll : List Nat → List D → Sg → R Sg
  | [], [], S => .ok S
  | i :: is, x :: xs, S => setAll is xs (S.set i (.fz x))
  | _, _, _ => .bad
def Tg.set : Tg → D → Sg → R Sg
  | .one i, x, S => .ok (S.set i (.fz x))
  | .tup is, .tup xs, S => setAll is xs S
  | .tup is, .lst xs, S => setAll is xs S
  | _, _, _ => .bad
def Val.sl : Val → Sl
  | .d x => .fz x
  | .fr xs => .own xs
/-- nothing may be raised here -/
def R.noEr {α : Type} : R α → R α
  | .ok a => .ok a
  | _ => .bad
/-- the loop of a comprehension -/
def compL (tg : Tg) (S : Sg) (c : Sg → R Bool) (e : Sg → R D) : List D → List D → R (List D)
  | [], acc => .ok acc
  | x :: xs, acc => do
    let S1 ← tg.set x S
    let b ← (c S1).noEr
    if b then
      let y ← (e S1).noEr
      compL tg S c e xs (acc ++ [y])
    else compL tg S c e xs acc
def isVar : Ex → Option Nat
  | .var i => some i
  | _ => none
def rngD (lo hi : Int) : R (List D) := .ok ((List.range (hi - lo).toNat).map fun k => .int (lo + (k : Nat)))

/-- the functions that stand: what each gives -/
abbrev Fns := String → List D → R Val

/-- .. where nothing of it is kept: a list of one's own may be read -/
def lookE (e : Ex) (S : Sg) (v : R Val) : R D := match e with
  | .var i => S.look i
  | _ => do let x ← v; pure x.D
def andV (b : R Val) (v : Val) (k : Bool) : R Val := if k then b else .ok v
def ownE (e : Ex) (S : Sg) : Bool := match e with
  | .var i => S.isOwn i
  | _ => false
def anyOwn : Exs → Sg → Bool
  | .nil, _ => false
  | .cons e r, S => ownE e S || anyOwn r S
def D.int? : D → R Int
  | .int i => .ok i
  | _ => .bad
/-- what a for goes through -/
def D.seq? : D → R (List D)
  | .lst xs => .ok xs
  | .tup xs => .ok xs
  | .str s => .ok (s.map fun c => .str [c])
  | .scr ns => .ok (ns.map .int)
  | _ => .bad
def D.str? : D → R Tx
  | .str s => .ok s
  | _ => .bad
/-- numbered items -/
def numD : Nat → List D → List D
  | _, [] => []
  | i, x :: r => .tup [.int (i : Nat), x] :: numD (i + 1) r
def enumD : D → R (List D)
  | .lst xs => .ok (numD 0 xs)
  | _ => .bad
/-- a step range -/
def rng3D (i j c : Int) : R (List D) := if c ≠ 0 ∧ c.natAbs < 1073741824 ∧ Builtin.Range.small i j c = true ∧ 0 ≤ Builtin.Range.rangeSize i j c then .ok ((List.range (Builtin.Range.rangeSize i j c).toNat).map fun k => .int (i + (k : Nat) * c)) else .bad
/-- list(range(i, j)) -/
def lrgD (i j : Int) : R Val := if (j - i).toNat ≤ LINE then .ok (.fr ((List.range (j - i).toNat).map fun k => .int (i + (k : Nat)))) else .bad
/-- how often k stands among whole numbers -/
def lsI : D → R (List Int)
  | .lst xs => optR (intsOf xs) .ok
  | _ => .bad
def cntD (ns : List Int) (k : Int) : R Val := .ok (.d (.int (ns.count k : Nat)))
/-- turned about -/
def revD : D → R Val
  | .lst xs => .ok (.fr xs.reverse)
  | _ => .bad
def revsD : D → R (List D)
  | .lst xs => .ok xs.reverse
  | .tup xs => .ok xs.reverse
  | _ => .bad
def kept (b : Bool) (v : Val) : R Val := if b && !v.flat then .bad else .ok v

section
variable (Γ : Fns)
mutual
def ev : Ex → Sg → R Val
  | .var i, S => S.get i >>= fun x => .ok (.d x)
  | .cst x, _ => .ok (.d x)
  | .bin o a b, S => lookE a S (ev a S) >>= fun x => lookE b S (ev b S) >>= fun y => binD o x y
  | .neg a, S => lookE a S (ev a S) >>= fun x => x.int? >>= fun i => .ok (.d (.int (-i)))
  | .nt a, S => lookE a S (ev a S) >>= fun x => x.truth >>= fun k => .ok (.d (.bl (!k)))
  | .cmp o a b, S => lookE a S (ev a S) >>= fun x => lookE b S (ev b S) >>= fun y => cmpD o x y >>= fun c => .ok (.d (.bl c))
  | .chn o p a b c, S => lookE a S (ev a S) >>= fun x => lookE b S (ev b S) >>= fun y => cmpD o x y >>= fun k =>
      if k then lookE c S (ev c S) >>= fun z => cmpD p y z >>= fun l => .ok (.d (.bl l)) else .ok (.d (.bl false))
  | .and a b, S => ev a S >>= fun v => v.D.truth >>= fun k => if k then ev b S else .ok v
  | .or a b, S => ev a S >>= fun v => v.D.truth >>= fun k => if k then .ok v else ev b S
  | .ite t a b, S => lookE t S (ev t S) >>= fun x => x.truth >>= fun k => if k then ev a S else ev b S
  | .tup es, S => evs es S >>= fun xs => if xs.length ≤ LINE then .ok (.d (.tup xs)) else .bad
  | .lst es, S => evs es S >>= fun xs => if xs.length ≤ LINE then .ok (.fr xs) else .bad
  | .sub a i, S => lookE a S (ev a S) >>= fun x => lookE i S (ev i S) >>= fun k => subD x k >>= fun y => .ok (.d y)
  | .slc a lo hi, S => lookE a S (ev a S) >>= fun x => lookE lo S (ev lo S) >>= fun l => l.int? >>= fun i => lookE hi S (ev hi S) >>= fun h => h.int? >>= fun j => slcD x (some i) (some j)
  | .slcL a lo, S => lookE a S (ev a S) >>= fun x => lookE lo S (ev lo S) >>= fun l => l.int? >>= fun i => slcD x (some i) none
  | .slcH a hi, S => lookE a S (ev a S) >>= fun x => lookE hi S (ev hi S) >>= fun h => h.int? >>= fun j => slcD x none (some j)
  | .call f es, S => evsL es S >>= fun xs => Γ f xs >>= fun v => kept (anyOwn es S) v
  | .bi b es, S => evsL es S >>= fun xs => biD b xs >>= fun v => .ok v
  | .isa a c, S => lookE a S (ev a S) >>= fun x => isaD x c >>= fun k => .ok (.d (.bl k))
  | .lc own tg it c e, S => evI it S >>= fun xs => if xs.length ≤ LINE then
      compL tg (wipeS S (own.map (·.2))) (fun S1 => lookE c S1 (ev c S1) >>= fun x => x.truth) (fun S1 => ev e S1 >>= fun v => .ok v.D) xs [] >>= fun ys => .ok (.fr ys) else .bad
  | .fld cs a n, S => lookE a S (ev a S) >>= fun x => fldD cs n x >>= fun y => .ok (.d y)
  | .mth cs a m es, S => lookE a S (ev a S) >>= fun x => clsOf cs m x >>= fun c => evsL es S >>= fun xs => Γ (c ++ "." ++ m) (x :: xs) >>= fun v => kept (anyOwn es S) v
  | .mk c es, S => evs es S >>= fun xs => (Γ (c ++ ".__init__") (.ins c [] [] :: xs)).noEr >>= fun v => newD c v
  | .isx cs a c, S => lookE a S (ev a S) >>= fun x => isxD cs c x >>= fun k => .ok (.d (.bl k))
  | .xfl cs a n, S => lookE a S (ev a S) >>= fun x => xflD cs n x >>= fun y => .ok (.d y)
  | .m1 m a b, S => lookE a S (ev a S) >>= fun x => x.str? >>= fun s => lookE b S (ev b S) >>= fun y => m1D m s y
  | .rev a, S => lookE a S (ev a S) >>= fun x => revD x
  | .lrg1 b, S => lookE b S (ev b S) >>= fun y => y.int? >>= fun j => lrgD 0 j
  | .lrg a b, S => lookE a S (ev a S) >>= fun x => x.int? >>= fun i => lookE b S (ev b S) >>= fun y => y.int? >>= fun j => lrgD i j
  | .cnt a b, S => lookE a S (ev a S) >>= fun x => lsI x >>= fun ns => lookE b S (ev b S) >>= fun y => y.int? >>= fun k => cntD ns k
def evs : Exs → Sg → R (List D)
  | .nil, _ => .ok []
  | .cons e r, S => ev e S >>= fun v => evs r S >>= fun xs => .ok (v.D :: xs)
def evsL : Exs → Sg → R (List D)
  | .nil, _ => .ok []
  | .cons e r, S => lookE e S (ev e S) >>= fun x => evsL r S >>= fun xs => .ok (x :: xs)
def evI : It → Sg → R (List D)
  | .seq e, S => ev e S >>= fun v => v.D.seq?
  | .rng a, S => lookE a S (ev a S) >>= fun x => x.int? >>= fun j => rngD 0 j
  | .enum e, S => ev e S >>= fun v => enumD v.D
  | .rng2 a b, S => lookE a S (ev a S) >>= fun x => x.int? >>= fun i => lookE b S (ev b S) >>= fun y => y.int? >>= fun j => rngD i j
  | .rng3 a b c, S => lookE a S (ev a S) >>= fun x => x.int? >>= fun i => lookE b S (ev b S) >>= fun y => y.int? >>= fun j => lookE c S (ev c S) >>= fun z => z.int? >>= fun k => rng3D i j k
  | .revs e, S => ev e S >>= fun v => revsD v.D
end
def evL (e : Ex) (S : Sg) : R D := lookE e S (ev Γ e S)
def evT (e : Ex) (S : Sg) : R Bool := evL Γ e S >>= fun x => x.truth

inductive Out where
  | nx (S : Sg) | rt (v : Val) | bk (S : Sg) | ct (S : Sg) | er (c : String) (fs : List D) | bad
def Out.of {α : Type} (r : R α) (f : α → Out) : Out := match r with
  | .ok a => f a
  | .er c fs => .er c fs
  | .bad => .bad
@[simp] theorem Out.of_ok {α : Type} (a : α) (f : α → Out) : Out.of (.ok a) f = f a := id rfl
@[simp] theorem Out.of_er {α : Type} (c : String) (fs : List D) (f : α → Out) : Out.of (.er c fs) f = .er c fs := id rfl
@[simp] theorem Out.of_bad {α : Type} (f : α → Out) : Out.of .bad f = .bad := id rfl
def forL (tg : Tg) (b : Sg → Out) : List D → Sg → Out
  | [], S => .nx S
  | x :: xs, S => Out.of (tg.set x S) fun S1 => match b S1 with
    | .nx S2 => forL tg b xs S2
    | .ct S2 => forL tg b xs S2
    | .bk S2 => .nx S2
    | o => o
/-- at most n turns -/
def whlL (t : Sg → R Bool) (b : Sg → Out) : Nat → Sg → Out
  | 0, _ => .bad
  | n + 1, S => Out.of (t S) fun k => if k then (match b S with
    | .nx S2 => whlL t b n S2
    | .ct S2 => whlL t b n S2
    | .bk S2 => .nx S2
    | o => o) else .nx S
def FUEL : Nat := 2 ^ 64
def frzS (S : Sg) (i : Nat) : Sg := match S[i]? with
  | some (.own xs) => S.set i (.fz (.lst xs))
  | _ => S
/-- an except suite's statements -/
def actS (c : String) (fs : List D) : List (Nat × Ha) → Sg → R Sg
  | [], S => .ok S
  | (y, .keep) :: r, S => actS c fs r (S.set y (.fz (.exc c (FvX.xNs c) fs)))
  | (y, .fld n) :: r, S => xflD [c] n (.exc c (FvX.xNs c) fs) >>= fun v => actS c fs r (S.set y (.fz v))
  | (y, .txt s) :: r, S => actS c fs r (S.set y (.fz (.str s)))
/-- the except clauses -/
def hdO : List Hd → Sg → String → List D → Out
  | [], _, c, fs => .er c fs
  | h :: r, S, c, fs => if h.c = c then (if h.e < S.length then Out.of (actS c fs h.acts (S.set h.e .no)) fun S1 => .nx (S1.set h.e .no) else .bad) else hdO r S c fs
def tryO (hs : List Hd) (x : Nat) (S : Sg) : R Val → Out
  | .ok v => .nx (S.set x v.sl)
  | .er c fs => hdO hs S c fs
  | .bad => .bad
def rseO (c : String) (xs : List D) : Out := if xs.length = (FvX.xNs c).length ∧ xs.all D.flat = true then .er c xs else .bad
mutual
def exe : Sm → Sg → Out
  | .set i e, S => Out.of (ev Γ e S) fun v => .nx (S.set i v.sl)
  | .setT is e, S => Out.of (ev Γ e S) fun v => Out.of ((Tg.tup is).set v.D S) fun S1 => .nx S1
  | .aug i o e, S => Out.of (S.get i) fun x => Out.of (evL Γ e S) fun y => Out.of (augD o x y) fun v => .nx (S.set i (.fz v))
  | .app i e, S => match S[i]? with
    | some (.own xs) => Out.of (ev Γ e S) fun v => if xs.length < LINE then .nx (S.set i (.own (xs ++ [v.D]))) else .bad
    | _ => .bad
  | .put i k e, S => match S[i]? with
    | some (.own xs) => Out.of (ev Γ e S) fun v => Out.of (evL Γ k S) fun x => Out.of x.int? fun j => Out.of (optR (ixOf xs.length j) .ok) fun n => .nx (S.set i (.own (xs.set n v.D)))
    | _ => .bad
  | .ext i e, S => match S[i]? with
    | some (.own xs) => Out.of (evL Γ e S) fun y => match y with
      | .lst zs => if xs.length + zs.length ≤ LINE then .nx (S.set i (.own (xs ++ zs))) else .bad
      | _ => .bad
    | _ => .bad
  | .mov i j, S => match S[j]? with
    | some (.own xs) => if i ≠ j then .nx ((S.set j .no).set i (.own xs)) else .bad
    | _ => .bad
  | .ifs t a b, S => Out.of (evT Γ t S) fun k => if k then exes a S else exes b S
  | .whl t b, S => whlL (fun S => evT Γ t S) (fun S => exes b S) FUEL S
  | .for_ tg it b, S => Out.of (evI Γ it S) fun xs => forL tg (fun S => exes b S) xs S
  | .ret e, S => match e with
    | .var i => (match S[i]? with
      | some (.own xs) => .rt (.fr xs)
      | some (.fz x) => .rt (.d x)
      | _ => .bad)
    | e => Out.of (ev Γ e S) fun v => .rt v
  | .exp e, S => Out.of (ev Γ e S) fun _ => .nx S
  | .brk, S => .bk S
  | .cnt, S => .ct S
  | .pas, S => .nx S
  | .nev, _ => .bad
  | .rse c es, S => Out.of (evs Γ es S) fun xs => rseO c xs
  | .tryS x f es hs, S => Out.of (evs Γ es S).noEr fun xs => tryO hs x S (Γ f xs)
  | .fst _ _ _, _ => .bad
  | .ini _ _, _ => .bad
def exes : Sms → Sg → Out
  | .nil, S => .nx S
  | .cons s r, S => match exe s S with
    | .nx S1 => exes r S1
    | o => o
  | .frz i r, S => exes r (frzS S i)
end
/-- a def: its slots (parameters first), its defaults, its body -/
structure Df where
  np : Nat
  nl : Nat
  dfl : List D
  body : Sms
def Out.val : Out → R Val
  | .nx _ => .ok (.d .non)
  | .rt v => .ok v
  | .er c fs => .er c fs
  | _ => .bad
def isIni : Sms → Bool
  | .cons (.fst _ _ _) _ => true
  | .cons (.ini _ _) _ => true
  | _ => false
/-- an __init__'s body: the instance so far -/
def iexe : Sms → Sg → String → List String → List D → R Val
  | .nil, _, c, ns, xs => .ok (.d (.ins c ns xs))
  | .cons (.fst cs n e) r, S, c, ns, xs => if c ∈ cs ∧ n ∉ ns ∧ ns.length < 50 then ev Γ e S >>= fun v => iexe r S c (ns ++ [n]) (xs ++ [v.D]) else .bad
  | .cons (.ini b es) r, S, c, ns, xs => evs Γ es S >>= fun ds => (Γ (b ++ ".__init__") (.ins c ns xs :: ds)).noEr >>= fun v => match v with
    | .d (.ins c' ns' xs') => if c' = c then iexe r S c ns' xs' else .bad
    | _ => .bad
  | _, _, _, _, _ => .bad
def runI (d : Df) : List D → R Val
  | .ins c ns fs :: xs => if xs.length + 1 = d.np then iexe Γ d.body (.no :: xs.map Sl.fz ++ List.replicate (d.nl - d.np) Sl.no) c ns fs else .bad
  | _ => .bad
def run (d : Df) (xs : List D) : R Val :=
  if isIni d.body = true then runI Γ d xs else
  if xs.length ≤ d.np ∧ d.np ≤ xs.length + d.dfl.length then
    (exes Γ d.body ((xs ++ d.dfl.drop (xs.length + d.dfl.length - d.np)).map Sl.fz ++ List.replicate (d.nl - d.np) Sl.no)).val
  else .bad
end
end
end Fv
end
section
namespace Fv
open PySem L2

mutual
/-- x lies at v, all of it in F -/
def Rp (K : PySem.W.Frag) (F : Hp) : D → V → Prop
  | .non, v => v = .non
  | .bl b, v => v = .bl b
  | .int i, v => v = .int i
  | .str s, v => v = .str ⟨s.toArray⟩
  | .lst xs, v => ∃ a vs, v = .ref a ∧ F a = some (.lst vs) ∧ RpL K F xs vs
  | .tup xs, v => ∃ a vs, v = .ref a ∧ F a = some (.tup vs) ∧ RpL K F xs vs
  | .dic _ _, _ => False
  | .ins c ns xs, v => ∃ a dx fsV vs, v = .ref a ∧ F a = some (.ins (He.ga K (Str.ofString c)) dx fsV) ∧ RpL K F xs vs ∧ ns.length = xs.length ∧ ∀ n : Str, fsV.lookup n = ((ns.map Str.ofString).zip vs).lookup n
  | .scr ns, v => ∃ a, v = .ref a ∧ SqL K F a (ns.map V.int)
  | .exc c ns xs, v => ∃ a d fsV vs, v = .ref a ∧ F a = some (FvX.exk a (.ref (He.ga K (Str.ofString c))) (some d)) ∧ F d = some (.xd fsV) ∧ RpL K F xs vs ∧ ns.length = xs.length ∧ ∀ n : Str, fsV.lookup n = ((ns.map Str.ofString).zip vs).lookup n
def RpL (K : PySem.W.Frag) (F : Hp) : List D → List V → Prop
  | [], vs => vs = []
  | x :: xs, vs => ∃ v r, vs = v :: r ∧ Rp K F x v ∧ RpL K F xs r
end
section
variable {K : PySem.W.Frag} {F F' : Hp}
mutual
theorem Rp.mono (e : Same F F') : ∀ (x : D) (v : V), Rp K F x v → Rp K F' x v
  | .non, _, h => h
  | .bl _, _, h => h
  | .int _, _, h => h
  | .str _, _, h => h
  | .lst xs, _, h => by
    rw [Rp] at h ⊢
    obtain ⟨a, vs, e1, e2, e3⟩ := h
    exact ⟨a, vs, e1, e _ _ e2, RpL.mono e xs vs e3⟩
  | .tup xs, _, h => by
    rw [Rp] at h ⊢
    obtain ⟨a, vs, e1, e2, e3⟩ := h
    exact ⟨a, vs, e1, e _ _ e2, RpL.mono e xs vs e3⟩
  | .dic _ _, _, h => by rw [Rp] at h; exact h.elim
  | .ins c ns xs, _, h => by
    rw [Rp] at h ⊢
    obtain ⟨a, dx, fsV, vs, e1, e2, e3, e4, e5⟩ := h
    exact ⟨a, dx, fsV, vs, e1, e _ _ e2, RpL.mono e xs vs e3, e4, e5⟩
  | .scr ns, _, h => by
    rw [Rp] at h ⊢
    obtain ⟨a, e1, e2⟩ := h
    exact ⟨a, e1, e.seq e2⟩
  | .exc c ns xs, _, h => by
    rw [Rp] at h ⊢
    obtain ⟨a, d, fsV, vs, e1, e2, e3, e4, e5, e6⟩ := h
    exact ⟨a, d, fsV, vs, e1, e _ _ e2, e _ _ e3, RpL.mono e xs vs e4, e5, e6⟩
theorem RpL.mono (e : Same F F') : ∀ (xs : List D) (vs : List V), RpL K F xs vs → RpL K F' xs vs
  | [], _, h => by rw [RpL] at h ⊢; exact h
  | x :: xs, _, h => by
    rw [RpL] at h ⊢
    obtain ⟨v, r, e1, e2, e3⟩ := h
    exact ⟨v, r, e1, Rp.mono e x v e2, RpL.mono e xs r e3⟩
end
theorem RpL.nil : RpL K F [] [] := by rw [RpL]
theorem RpL.cons {x : D} {xs : List D} {v : V} {vs : List V} (h : Rp K F x v) (t : RpL K F xs vs) : RpL K F (x :: xs) (v :: vs) := by rw [RpL]; exact ⟨v, vs, rfl, h, t⟩
theorem RpL.len : ∀ {xs : List D} {vs : List V}, RpL K F xs vs → xs.length = vs.length
  | [], _, h => by rw [RpL] at h; rw [h]; rfl
  | x :: xs, _, h => by
    rw [RpL] at h
    obtain ⟨v, r, e1, _, e3⟩ := h
    rw [e1, List.length_cons, List.length_cons, RpL.len e3]
theorem RpL.get : ∀ {xs : List D} {vs : List V} {i : Nat} {x : D}, RpL K F xs vs → xs[i]? = some x → ∃ v, vs[i]? = some v ∧ Rp K F x v
  | [], _, _, _, _, e => by simp at e
  | y :: xs, _, i, x, h, e => by
    rw [RpL] at h
    obtain ⟨v, r, rfl, h1, h2⟩ := h
    cases i with
    | zero =>
      rw [List.getElem?_cons_zero] at e
      cases e
      exact ⟨v, rfl, h1⟩
    | succ i =>
      rw [List.getElem?_cons_succ] at e
      obtain ⟨w, e1, e2⟩ := RpL.get h2 e
      exact ⟨w, by rw [List.getElem?_cons_succ]; exact e1, e2⟩
theorem RpL.app : ∀ {xs ys : List D} {vs ws : List V}, RpL K F xs vs → RpL K F ys ws → RpL K F (xs ++ ys) (vs ++ ws)
  | [], _, _, _, h, g => by rw [RpL] at h; rw [h]; exact g
  | x :: xs, _, _, _, h, g => by
    rw [RpL] at h
    obtain ⟨v, r, rfl, h1, h2⟩ := h
    exact RpL.cons h1 (RpL.app h2 g)
theorem RpL.drop : ∀ {xs : List D} {vs : List V} (n : Nat), RpL K F xs vs → RpL K F (xs.drop n) (vs.drop n)
  | _, _, 0, h => h
  | [], _, n + 1, h => by rw [RpL] at h; rw [h]; exact RpL.nil
  | x :: xs, _, n + 1, h => by
    rw [RpL] at h
    obtain ⟨v, r, rfl, h1, h2⟩ := h
    exact RpL.drop n h2
theorem RpL.take : ∀ {xs : List D} {vs : List V} (n : Nat), RpL K F xs vs → RpL K F (xs.take n) (vs.take n)
  | _, _, 0, _ => RpL.nil
  | [], _, n + 1, h => by rw [RpL] at h; rw [h]; exact RpL.nil
  | x :: xs, _, n + 1, h => by
    rw [RpL] at h
    obtain ⟨v, r, rfl, h1, h2⟩ := h
    exact RpL.cons h1 (RpL.take n h2)
theorem RpL.set : ∀ {xs : List D} {vs : List V} {x : D} {v : V} (n : Nat), RpL K F xs vs → Rp K F x v → RpL K F (xs.set n x) (vs.set n v)
  | [], _, _, _, n, h, _ => by rw [RpL] at h; rw [h]; exact RpL.nil
  | y :: xs, _, _, _, 0, h, g => by
    rw [RpL] at h
    obtain ⟨v, r, rfl, h1, h2⟩ := h
    exact RpL.cons g h2
  | y :: xs, _, _, _, n + 1, h, g => by
    rw [RpL] at h
    obtain ⟨v, r, rfl, h1, h2⟩ := h
    exact RpL.cons h1 (RpL.set n h2 g)
theorem RpL.rep {xs : List D} {vs : List V} (h : RpL K F xs vs) : ∀ n : Nat, RpL K F (List.replicate n xs).flatten (List.replicate n vs).flatten
  | 0 => RpL.nil
  | n + 1 => by
    rw [List.replicate_succ, List.replicate_succ, List.flatten_cons, List.flatten_cons]
    exact h.app (RpL.rep h n)
theorem Rp.flat {x : D} {v : V} (hf : x.flat = true) (h : Rp K F x v) (F' : Hp) : Rp K F' x v := by
  cases x with
  | non => exact h
  | bl b => exact h
  | int b => exact h
  | str b => exact h
  | _ => exact absurd (show false = true from hf) Bool.false_ne_true
theorem RpL.flat : ∀ {xs : List D} {vs : List V}, xs.all D.flat = true → RpL K F xs vs → ∀ F' : Hp, RpL K F' xs vs
  | [], _, _, h, _ => by rw [RpL] at h ⊢; exact h
  | x :: xs, _, hf, h, F' => by
    rw [RpL] at h
    obtain ⟨v, r, rfl, h1, h2⟩ := h
    rw [List.all_cons, Bool.and_eq_true] at hf
    exact RpL.cons (h1.flat hf.1 F') (RpL.flat hf.2 h2 F')
/-- ints -/
theorem RpL.ints : ∀ {xs : List D} {vs : List V} {ns : List Int}, RpL K F xs vs → intsOf xs = some ns → vs = ns.map V.int
  | [], _, ns, h, e => by
    rw [RpL] at h
    rw [intsOf] at e
    cases e
    rw [h]; rfl
  | x :: xs, _, ns, h, e => by
    rw [RpL] at h
    obtain ⟨v, r, rfl, h1, h2⟩ := h
    cases x with
    | int i =>
      rw [intsOf] at e
      cases q : intsOf xs with
      | none => rw [q] at e; cases e
      | some ms =>
        rw [q] at e
        cases e
        rw [Rp] at h1
        rw [h1, RpL.ints h2 q]; rfl
    | _ => simp [intsOf] at e
theorem RpL.bls : ∀ {xs : List D} {vs : List V} {bs : List Bool}, RpL K F xs vs → allBl xs = some bs → vs = bs.map V.bl
  | [], _, ns, h, e => by
    rw [RpL] at h
    rw [allBl] at e
    cases e
    rw [h]; rfl
  | x :: xs, _, ns, h, e => by
    rw [RpL] at h
    obtain ⟨v, r, rfl, h1, h2⟩ := h
    cases x with
    | bl i =>
      rw [allBl] at e
      cases q : allBl xs with
      | none => rw [q] at e; cases e
      | some ms =>
        rw [q] at e
        cases e
        rw [Rp] at h1
        rw [h1, RpL.bls h2 q]; rfl
    | _ => simp [allBl] at e
end

/-- F: what may be kept; H: all -/
structure Grow (F F' H H' : Hp) : Prop where
  f : Same F F'
  fh : Same F' H'
  h : Same H H'
  new : ∀ a, F' a ≠ none → F a ≠ none ∨ H a = none
theorem Grow.refl {F H : Hp} (e : Same F H) : Grow F F H H := ⟨Same.refl F, e, Same.refl H, fun _ h => .inl h⟩
theorem Grow.trans {F F1 F2 H H1 H2 : Hp} (a : Grow F F1 H H1) (b : Grow F1 F2 H1 H2) : Grow F F2 H H2 :=
  ⟨a.f.trans b.f, b.fh, a.h.trans b.h, fun p hp => by
    rcases b.new p hp with q | q
    · exact a.new p q
    · exact .inr (a.h.free q)⟩
theorem Grow.non {F F' H H' : Hp} (g : Grow F F' H H') {p : Addr} (hf : F p = none) (hh : H p ≠ none) : F' p = none := by
  cases q : F' p with
  | none => rfl
  | some o =>
    rcases g.new p (by rw [q]; exact fun z => nomatch z) with z | z
    · exact absurd hf z
    · exact absurd z hh
theorem same_upd {H : Hp} {p : Addr} {o : HO} (h : H p = none) : Same H (upd H p o) := fun b x e => by
  rw [upd_ne (ne_of_none e h)]
  exact e
theorem same_upd2 {F H : Hp} {p : Addr} {o : HO} (h : Same F H) (hf : F p = none) : Same F (upd H p o) := fun b x e => by
  rw [upd_ne (ne_of_none e hf)]
  exact h b x e
theorem same_both {F H : Hp} {p : Addr} {o : HO} (h : Same F H) : Same (upd F p o) (upd H p o) := fun b x e => by
  by_cases hb : b = p
  · subst hb
    rw [upd_same] at e ⊢
    exact e
  · rw [upd_ne hb] at e ⊢
    exact h b x e
/-- a new object, kept -/
theorem Grow.newF {F H : Hp} {p : Addr} {o : HO} (e : Same F H) (hp : H p = none) : Grow F (upd F p o) H (upd H p o) :=
  ⟨same_upd (e.free hp), same_both e, same_upd hp, fun a ha => by
    by_cases h : a = p
    · subst h; exact .inr hp
    · rw [upd_ne h] at ha; exact .inl ha⟩
/-- a new object, not kept as yet -/
theorem Grow.newH {F H : Hp} {p : Addr} {o : HO} (e : Same F H) (hp : H p = none) : Grow F F H (upd H p o) :=
  ⟨Same.refl F, same_upd2 e (e.free hp), same_upd hp, fun _ h => .inl h⟩

/-- what an expression has given -/
def VR (K : PySem.W.Frag) (F' H H' : Hp) : Val → V → Prop
  | .d x, v => Rp K F' x v
  | .fr xs, v => ∃ p vs, v = .ref p ∧ H p = none ∧ H' p = some (.lst vs) ∧ F' p = none ∧ RpL K F' xs vs
/-- .. where nothing of it is kept -/
def LR (K : PySem.W.Frag) (F H : Hp) : D → V → Prop
  | .lst xs, v => ∃ a vs, v = .ref a ∧ H a = some (.lst vs) ∧ RpL K F xs vs
  | x, v => Rp K F x v
section
variable {K : PySem.W.Frag} {F F' H H' H0 : Hp}
theorem LR.of {x : D} {v : V} (e : Same F H) (h : Rp K F x v) : LR K F H x v := by
  cases x <;> first
    | exact h
    | (rw [Rp] at h
       obtain ⟨a, vs, e1, e2, e3⟩ := h
       exact ⟨a, vs, e1, e _ _ e2, e3⟩)
theorem LR.full {x : D} {v : V} (e : Same F H) (h : LR K F H x v) : Rp K H x v := by
  cases x <;> first
    | exact Rp.mono e _ _ h
    | (obtain ⟨a, vs, e1, e2, e3⟩ := h
       rw [Rp]
       exact ⟨a, vs, e1, e2, RpL.mono e _ _ e3⟩)
theorem LR.grow {x : D} {v : V} (g : Grow F F' H H') (h : LR K F H x v) : LR K F' H' x v := by
  cases x <;> first
    | exact Rp.mono g.f _ _ h
    | (obtain ⟨a, vs, e1, e2, e3⟩ := h
       exact ⟨a, vs, e1, g.h _ _ e2, RpL.mono g.f _ _ e3⟩)
theorem VR.look {val : Val} {v : V} (e : Same F' H') (h : VR K F' H H' val v) : LR K F' H' val.D v := by
  cases val with
  | d x => exact LR.of e h
  | fr xs =>
    obtain ⟨p, vs, e1, _, e2, _, e3⟩ := h
    exact ⟨p, vs, e1, e2, e3⟩
/-- the new list is kept from here on -/
theorem VR.keep {val : Val} {v : V} (g : Grow F F' H H') (h : VR K F' H H' val v) : ∃ F2, Grow F F2 H H' ∧ Same F' F2 ∧ Rp K F2 val.D v := by
  cases val with
  | d x => exact ⟨F', g, Same.refl _, h⟩
  | fr xs =>
    obtain ⟨p, vs, e1, n, e2, n2, e3⟩ := h
    have s1 : Same F' (upd F' p (.lst vs)) := same_upd n2
    refine ⟨upd F' p (.lst vs), ⟨g.f.trans s1, fun b o q => ?_, g.h, fun a ha => ?_⟩, s1, ?_⟩
    · by_cases hb : b = p
      · subst hb
        rw [upd_same] at q
        rw [e2]; exact q
      · rw [upd_ne hb] at q
        exact g.fh b o q
    · by_cases hb : a = p
      · subst hb; exact .inr n
      · rw [upd_ne hb] at ha
        exact g.new a ha
    · show Rp K _ (.lst xs) v
      rw [Rp]
      exact ⟨p, vs, e1, upd_same, RpL.mono s1 _ _ e3⟩
/-- behind more growth ahead: the list is still new -/
theorem VR.back {val : Val} {v : V} {H1 : Hp} (e : Same H1 H) (h : VR K F' H H' val v) : VR K F' H1 H' val v := by
  cases val with
  | d x => exact h
  | fr xs =>
    obtain ⟨p, vs, e1, n, e2⟩ := h
    exact ⟨p, vs, e1, e.free n, e2⟩
end

structure StOk (K : PySem.W.Frag) (B F H : Hp) (σ : St) (S : Sg) : Prop where
  bh : Same B H
  fh : Same F H
  len : S.length = σ.length
  fz : ∀ (i : Nat) (x : D), S[i]? = some (.fz x) → ∃ v, σ[i]? = some (some v) ∧ Rp K F x v
  own : ∀ (i : Nat) (xs : List D), S[i]? = some (.own xs) → ∃ p vs, σ[i]? = some (some (.ref p)) ∧ H p = some (.lst vs) ∧ F p = none ∧ B p = none ∧ RpL K F xs vs
  ap : ∀ (i j : Nat) (xs ys : List D) (p : Addr), i ≠ j → S[i]? = some (.own xs) → S[j]? = some (.own ys) → σ[i]? = some (some (.ref p)) → σ[j]? = some (some (.ref p)) → False
section
variable {K : PySem.W.Frag} {B F F' H H' : Hp} {σ : St} {S : Sg}
theorem StOk.grow (s : StOk K B F H σ S) (g : Grow F F' H H') : StOk K B F' H' σ S where
  bh := s.bh.trans g.h
  fh := g.fh
  len := s.len
  fz := fun i x h => by
    obtain ⟨v, e, r⟩ := s.fz i x h
    exact ⟨v, e, Rp.mono g.f _ _ r⟩
  own := fun i xs h => by
    obtain ⟨p, vs, e, hp, fp, bp, r⟩ := s.own i xs h
    exact ⟨p, vs, e, g.h _ _ hp, g.non fp (by rw [hp]; exact fun z => nomatch z), bp, RpL.mono g.f _ _ r⟩
  ap := s.ap
theorem StOk.lt (s : StOk K B F H σ S) {i : Nat} {x : Sl} (h : S[i]? = some x) : i < σ.length := by
  rw [← s.len]
  exact (List.getElem?_eq_some_iff.mp h).1
/-- a list of one's own goes to another slot -/
theorem StOk.mov {i j : Nat} {xs : List D} {p : Addr} (s : StOk K B F H σ S) (hij : i ≠ j) (h : S[j]? = some (.own xs)) (e : σ[j]? = some (some (.ref p))) : StOk K B F H (σ.set i (some (.ref p))) ((S.set j .no).set i (.own xs)) := by
  have at_ : ∀ (l : Nat) (x : Sl), ((S.set j .no).set i (.own xs))[l]? = some x → (l = i ∧ x = .own xs) ∨ (l ≠ i ∧ l = j ∧ x = .no) ∨ (l ≠ i ∧ l ≠ j ∧ S[l]? = some x) := fun l x hl => by
    by_cases h1 : i = l
    · subst h1
      have hl2 : i < (S.set j .no).length := by
        have := (List.getElem?_eq_some_iff.mp hl).1
        rwa [List.length_set] at this
      rw [List.getElem?_set_self hl2] at hl
      exact .inl ⟨rfl, (Option.some.inj hl).symm⟩
    · rw [List.getElem?_set_ne h1] at hl
      by_cases h2 : j = l
      · subst h2
        have hl2 : j < S.length := (List.getElem?_eq_some_iff.mp h).1
        rw [List.getElem?_set_self hl2] at hl
        exact .inr (.inl ⟨fun z => h1 z.symm, rfl, (Option.some.inj hl).symm⟩)
      · rw [List.getElem?_set_ne h2] at hl
        exact .inr (.inr ⟨fun z => h1 z.symm, fun z => h2 z.symm, hl⟩)
  have sg : ∀ (l : Nat), l ≠ i → (σ.set i (some (.ref p)))[l]? = σ[l]? := fun l hl => List.getElem?_set_ne fun z => hl z.symm
  obtain ⟨p', vs, e1, hp, fp, bp, r⟩ := s.own j xs h
  have ep : p' = p := by rw [e] at e1; cases e1; rfl
  subst ep
  refine ⟨s.bh, s.fh, by rw [List.length_set, List.length_set, List.length_set]; exact s.len, fun l x hl => ?_, fun l ys hl => ?_, fun l m ys zs q hlm h1 h2 q1 q2 => ?_⟩
  · rcases at_ l _ hl with ⟨_, z⟩ | ⟨_, _, z⟩ | ⟨n1, _, z⟩
    · cases z
    · cases z
    · rw [sg l n1]; exact s.fz l x z
  · rcases at_ l _ hl with ⟨rfl, z⟩ | ⟨_, _, z⟩ | ⟨n1, _, z⟩
    · cases z
      have hl2 : l < S.length := by
        have := (List.getElem?_eq_some_iff.mp hl).1
        rwa [List.length_set, List.length_set] at this
      exact ⟨p', vs, List.getElem?_set_self (by rw [← s.len]; exact hl2), hp, fp, bp, r⟩
    · cases z
    · rw [sg l n1]; exact s.own l ys z
  · rcases at_ l _ h1 with ⟨rfl, z⟩ | ⟨_, _, z⟩ | ⟨n1, n2, z⟩
    · rcases at_ m _ h2 with ⟨rfl, _⟩ | ⟨_, _, w⟩ | ⟨m1, m2, w⟩
      · exact hlm rfl
      · cases w
      · have hl2 : l < σ.length := by
          have := (List.getElem?_eq_some_iff.mp q1).1
          rwa [List.length_set] at this
        rw [List.getElem?_set_self hl2] at q1
        rw [sg m m1] at q2
        cases q1
        exact s.ap j m xs zs p' (fun z => m2 z.symm) h w e q2
    · cases z
    · rcases at_ m _ h2 with ⟨rfl, _⟩ | ⟨_, _, w⟩ | ⟨m1, m2, w⟩
      · have hl2 : m < σ.length := by
          have := (List.getElem?_eq_some_iff.mp q2).1
          rwa [List.length_set] at this
        rw [List.getElem?_set_self hl2] at q2
        rw [sg l n1] at q1
        cases q2
        exact s.ap l j ys xs p' n2 z h q1 e
      · cases w
      · rw [sg l n1] at q1
        rw [sg m m1] at q2
        exact s.ap l m ys zs q hlm z w q1 q2
/-- a slot gets a value -/
theorem StOk.set {i : Nat} {val : Val} {v : V} {H1 : Hp} (s : StOk K B F H σ S) (g : Grow F F' H H') (r : VR K F' H H' val v) : StOk K B F' H' (σ.set i (some v)) (S.set i val.sl) where
  bh := s.bh.trans g.h
  fh := g.fh
  len := by rw [List.length_set, List.length_set]; exact s.len
  fz := fun j x h => by
    by_cases hj : i = j
    · subst hj
      have hl : i < S.length := by
        have := (List.getElem?_eq_some_iff.mp h).1
        rwa [List.length_set] at this
      rw [List.getElem?_set_self hl] at h
      cases val with
      | d y =>
        have e : y = x := by
          have := Option.some.inj h
          injection this
        subst e
        exact ⟨v, List.getElem?_set_self (by rw [← s.len]; exact hl), r⟩
      | fr xs => cases h
    · rw [List.getElem?_set_ne hj] at h
      obtain ⟨w, e, q⟩ := s.fz j x h
      exact ⟨w, by rw [List.getElem?_set_ne hj]; exact e, Rp.mono g.f _ _ q⟩
  own := fun j xs h => by
    by_cases hj : i = j
    · subst hj
      have hl : i < S.length := by
        have := (List.getElem?_eq_some_iff.mp h).1
        rwa [List.length_set] at this
      rw [List.getElem?_set_self hl] at h
      cases val with
      | d y => cases h
      | fr ys =>
        have e : ys = xs := by
          have := Option.some.inj h
          injection this
        subst e
        obtain ⟨p, vs, rfl, n, e2, n2, e3⟩ := r
        exact ⟨p, vs, List.getElem?_set_self (by rw [← s.len]; exact hl), e2, n2, s.bh.free n, e3⟩
    · rw [List.getElem?_set_ne hj] at h
      obtain ⟨p, vs, e, hp, fp, bp, q⟩ := s.own j xs h
      exact ⟨p, vs, by rw [List.getElem?_set_ne hj]; exact e, g.h _ _ hp, g.non fp (by rw [hp]; exact fun z => nomatch z), bp, RpL.mono g.f _ _ q⟩
  ap := fun j k xs ys p hjk h1 h2 e1 e2 => by
    have key : ∀ (k' : Nat) (xs' ys' : List D), i ≠ k' → (S.set i val.sl)[i]? = some (.own xs') → (S.set i val.sl)[k']? = some (.own ys') → (σ.set i (some v))[i]? = some (some (.ref p)) → (σ.set i (some v))[k']? = some (some (.ref p)) → False := by
      intro k' xs' ys' hik q1 q2 q3 q4
      have hl : i < S.length := by
        have := (List.getElem?_eq_some_iff.mp q1).1
        rwa [List.length_set] at this
      rw [List.getElem?_set_self hl] at q1
      rw [List.getElem?_set_ne hik] at q2 q4
      rw [List.getElem?_set_self (by rw [← s.len]; exact hl)] at q3
      cases val with
      | d y => cases q1
      | fr zs =>
        obtain ⟨p', vs, rfl, n, _⟩ := r
        obtain ⟨p2, vs2, e3, hp2, _⟩ := s.own k' ys' q2
        rw [q4] at e3
        cases q3
        cases e3
        rw [n] at hp2
        cases hp2
    by_cases hj : i = j
    · subst hj
      exact key k xs ys hjk h1 h2 e1 e2
    · by_cases hk : i = k
      · subst hk
        exact key j ys xs (Ne.symm hjk) h2 h1 e2 e1
      · rw [List.getElem?_set_ne hj] at h1 e1
        rw [List.getElem?_set_ne hk] at h2 e2
        exact s.ap j k xs ys p hjk h1 h2 e1 e2
/-- one's own list is changed -/
theorem StOk.wr {i : Nat} {xs ys : List D} {p : Addr} {vs ws : List V} (s : StOk K B F H σ S) (h : S[i]? = some (.own xs)) (e : σ[i]? = some (some (.ref p))) (hp : H p = some (.lst vs)) (r : RpL K F ys ws) :
    StOk K B F (upd H p (.lst ws)) σ (S.set i (.own ys)) := by
  obtain ⟨p', vs', e', hp', fp, bp, _⟩ := s.own i xs h
  rw [e] at e'
  cases e'
  refine ⟨same_upd2 s.bh bp, same_upd2 s.fh fp, by rw [List.length_set]; exact s.len, fun j x hj => ?_, fun j zs hj => ?_, fun j k zs us q hjk h1 h2 e1 e2 => ?_⟩
  · by_cases hij : i = j
    · subst hij
      have hl : i < S.length := (List.getElem?_eq_some_iff.mp h).1
      rw [List.getElem?_set_self hl] at hj
      cases hj
    · rw [List.getElem?_set_ne hij] at hj
      exact s.fz j x hj
  · by_cases hij : i = j
    · subst hij
      have hl : i < S.length := (List.getElem?_eq_some_iff.mp h).1
      rw [List.getElem?_set_self hl] at hj
      cases hj
      exact ⟨p, ws, e, upd_same, fp, bp, r⟩
    · rw [List.getElem?_set_ne hij] at hj
      obtain ⟨q, us, e1, hq, fq, bq, rq⟩ := s.own j zs hj
      have ne : q ≠ p := fun z => by
        subst z
        exact s.ap i j xs zs q hij h hj e e1
      exact ⟨q, us, e1, by rw [upd_ne ne]; exact hq, fq, bq, rq⟩
  · have own' : ∀ (j : Nat) (zs : List D), (S.set i (.own ys))[j]? = some (.own zs) → ∃ us, S[j]? = some (.own us) := fun j zs hj => by
      by_cases hij : i = j
      · subst hij; exact ⟨xs, h⟩
      · rw [List.getElem?_set_ne hij] at hj; exact ⟨zs, hj⟩
    obtain ⟨a, ha⟩ := own' j zs h1
    obtain ⟨b, hb⟩ := own' k us h2
    exact s.ap j k a b q hjk ha hb e1 e2
/-- the list in slot i is kept from here on -/
theorem StOk.frz (s : StOk K B F H σ S) (i : Nat) : ∃ F', Same F F' ∧ (∀ a, F' a ≠ none → F a ≠ none ∨ B a = none) ∧ StOk K B F' H σ (frzS S i) := by
  unfold frzS
  cases q : S[i]? with
  | none => exact ⟨F, Same.refl F, fun _ h => .inl h, s⟩
  | some sl =>
    cases sl with
    | no => exact ⟨F, Same.refl F, fun _ h => .inl h, s⟩
    | fz x => exact ⟨F, Same.refl F, fun _ h => .inl h, s⟩
    | own xs =>
      obtain ⟨p, vs, e, hp, fp, bp, r⟩ := s.own i xs q
      have s1 : Same F (upd F p (.lst vs)) := same_upd fp
      have hl : i < S.length := (List.getElem?_eq_some_iff.mp q).1
      refine ⟨upd F p (.lst vs), s1, fun a ha => ?_, ⟨s.bh, fun b o z => ?_, by rw [List.length_set]; exact s.len, fun j x hj => ?_, fun j zs hj => ?_, fun j k zs us w hjk h1 h2 e1 e2 => ?_⟩⟩
      · by_cases h : a = p
        · subst h; exact .inr bp
        · rw [upd_ne h] at ha; exact .inl ha
      · by_cases h : b = p
        · subst h
          rw [upd_same] at z
          rw [hp]; exact z
        · rw [upd_ne h] at z
          exact s.fh b o z
      · by_cases hij : i = j
        · subst hij
          have hj : (S.set i (.fz (.lst xs)))[i]? = some (.fz x) := hj
          rw [List.getElem?_set_self hl] at hj
          have e2 : D.lst xs = x := by
            have := Option.some.inj hj
            injection this
          subst e2
          refine ⟨.ref p, e, ?_⟩
          rw [Rp]
          exact ⟨p, vs, rfl, upd_same, RpL.mono s1 _ _ r⟩
        · have hj : (S.set i (.fz (.lst xs)))[j]? = some (.fz x) := hj
          rw [List.getElem?_set_ne hij] at hj
          obtain ⟨v, e1, r1⟩ := s.fz j x hj
          exact ⟨v, e1, Rp.mono s1 _ _ r1⟩
      · have hj : (S.set i (.fz (.lst xs)))[j]? = some (.own zs) := hj
        by_cases hij : i = j
        · subst hij
          rw [List.getElem?_set_self hl] at hj
          cases hj
        · rw [List.getElem?_set_ne hij] at hj
          obtain ⟨w, us, e1, hw, fw, bw, rw'⟩ := s.own j zs hj
          have ne : w ≠ p := fun z => by
            subst z
            exact s.ap i j xs zs w hij q hj e e1
          exact ⟨w, us, e1, hw, by rw [upd_ne ne]; exact fw, bw, RpL.mono s1 _ _ rw'⟩
      · have own' : ∀ (j : Nat) (zs : List D), (S.set i (.fz (.lst xs)))[j]? = some (.own zs) → S[j]? = some (.own zs) := fun j zs hj => by
          by_cases hij : i = j
          · subst hij
            rw [List.getElem?_set_self hl] at hj
            cases hj
          · rw [List.getElem?_set_ne hij] at hj; exact hj
        exact s.ap j k _ _ w hjk (own' j zs h1) (own' k us h2) e1 e2
end
end Fv
end
section
set_option maxHeartbeats 1000000
namespace Fv
open PySem PySem.Spec PyProof.Rows L2
abbrev Sx := L2.St
theorem sx_len (s : Tx) : (⟨s.toArray⟩ : Str).length = s.length := by simp [Str.length]
theorem sx_app (a b : Tx) : (⟨a.toArray⟩ : Str) ++ ⟨b.toArray⟩ = ⟨(a ++ b).toArray⟩ := TL.ext_tl (by rw [TL.tl_append])
theorem line_eq : LINE = sizeLine := by rw [sizeLine_eq]
def BOp.op : BOp → Operator
  | .add => .Add | .sub => .Sub | .mul => .Mult | .fdiv => .FloorDiv | .mod => .Mod | .pow => .Pow
def COp.op : COp → CmpOp
  | .eq => .Eq | .ne => .NotEq | .lt => .Lt | .le => .LtE | .gt => .Gt | .ge => .GtE | .inn => .In | .nin => .NotIn | .is => .Is | .isn => .IsNot
def rB (K : PySem.W.Frag) (o : BOp) : R2 := fun x y H Q => ∃ F d1 d2 val, Same F H ∧ LR K F H d1 x ∧ LR K F H d2 y ∧ binD o d1 d2 = .ok val ∧ ∀ F' H' v, Grow F F' H H' → VR K F' H H' val v → Q v H'
section
variable {X : Cx} {K : PySem.W.Frag} {F H : Hp} {Q : VK}
theorem lr_int {i : Int} {x : V} (h : LR K F H (.int i) x) : x = .int i := by
  have h1 : Rp K F (.int i) x := h
  rwa [Rp] at h1
theorem lr_str {i : Tx} {x : V} (h : LR K F H (.str i) x) : x = .str ⟨i.toArray⟩ := by
  have h1 : Rp K F (.str i) x := h
  rwa [Rp] at h1
theorem lr_bl {i : Bool} {x : V} (h : LR K F H (.bl i) x) : x = .bl i := by
  have h1 : Rp K F (.bl i) x := h
  rwa [Rp] at h1
theorem lr_non {x : V} (h : LR K F H .non x) : x = .non := by
  have h1 : Rp K F .non x := h
  rwa [Rp] at h1
theorem lr_tup {xs : List D} {x : V} (e : Same F H) (h : LR K F H (.tup xs) x) : ∃ a vs, x = .ref a ∧ F a = some (.tup vs) ∧ H a = some (.tup vs) ∧ RpL K F xs vs := by
  have h1 : Rp K F (.tup xs) x := h
  rw [Rp] at h1
  obtain ⟨a, vs, e1, e2, e3⟩ := h1
  exact ⟨a, vs, e1, e2, e _ _ e2, e3⟩
theorem rp_int {i : Int} : Rp K F (.int i) (.int i) := by rw [Rp]
theorem rp_str {i : Tx} : Rp K F (.str i) (.str ⟨i.toArray⟩) := by rw [Rp]
theorem rp_bl {i : Bool} : Rp K F (.bl i) (.bl i) := by rw [Rp]
theorem rp_non : Rp K F .non .non := by rw [Rp]
theorem rp_tup {xs : List D} {a : Addr} {vs : List V} (h : F a = some (.tup vs)) (r : RpL K F xs vs) : Rp K F (.tup xs) (.ref a) := by rw [Rp]; exact ⟨a, vs, rfl, h, r⟩
/-- a flat end -/
theorem endV {val : Val} {x : D} {v : V} (s : Same F H) (q : ∀ F' H' v, Grow F F' H H' → VR K F' H H' val v → Q v H') (e : val = .d x) (r : Rp K F x v) : Q v H := by
  subst e
  exact q F H v (Grow.refl s) r
/-- a new list's end -/
theorem endL {val : Val} {xs : List D} {vs : List V} (s : Same F H) (q : ∀ F' H' v, Grow F F' H H' → VR K F' H H' val v → Q v H') (e : val = .fr xs) (r : RpL K F xs vs) : ∀ p, H p = none → Q (.ref p) (upd H p (.lst vs)) := fun p hp => by
  subst e
  exact q F _ _ (Grow.newH s hp) ⟨p, vs, rfl, hp, upd_same, s.free hp, r⟩
/-- a new tuple's end -/
theorem endT {val : Val} {xs : List D} {vs : List V} (s : Same F H) (q : ∀ F' H' v, Grow F F' H H' → VR K F' H H' val v → Q v H') (e : val = .d (.tup xs)) (r : RpL K F xs vs) : ∀ p, H p = none → Q (.ref p) (upd H p (.tup vs)) := fun p hp => by
  subst e
  refine q _ _ _ (Grow.newF (o := .tup vs) s hp) ?_
  exact rp_tup upd_same (RpL.mono (same_upd (s.free hp)) _ _ r)

theorem mulOk_ok {i j : Int} (h : mulOk i j = true) : IntMulOk i j := by
  have h3 : i.natAbs.log2 + j.natAbs.log2 < 100000000 := of_decide_eq_true h
  have b : ∀ x : Int, Builtin.Int.intBits x ≤ x.natAbs.log2 + 1 := fun x => by
    unfold Builtin.Int.intBits
    split <;> omega
  have h1 := b i
  have h2 := b j
  have e : bitsLine = 134217728 := by decide
  unfold IntMulOk
  intro z
  rw [Bool.and_eq_true] at z
  have z2 := z.2
  unfold Builtin.Int.intTooBig at z2
  have z3 := of_decide_eq_true z2
  rw [e] at z3
  omega
theorem op_mulB : OpR X (binaryOp .Mult) (rI (fun i j => mulOk i j = true) fun i j => .int (i * j)) := opI fun _ _ _ _ _ _ _ hc q => mul_int q (mulOk_ok hc)
theorem op_divB : OpR X (binaryOp .FloorDiv) (rI (fun _ j => divOk j = true) fun i j => .int (i / j)) := opI fun i j _ _ _ _ _ hc q => by
  have h2 : 0 < j ∧ j.natAbs.log2 < 9000 := of_decide_eq_true hc
  have h1 := h2.1
  exact floordiv_int (by omega) (by rw [Int.fdiv_eq_ediv_of_nonneg i (by omega)]; exact q) (.inl (PyProof.noPylong_of_log2 h2.2))
theorem rep_flat1 {c : Nat} (n : Nat) : (List.replicate n #[c]).foldl (· ++ ·) #[] = (List.replicate n [c]).flatten.toArray := by
  have key : ∀ (m : Nat) (acc : List Nat), (List.replicate m #[c]).foldl (· ++ ·) acc.toArray = (acc ++ (List.replicate m [c]).flatten).toArray := by
    intro m
    induction m with
    | zero => intro acc; simp
    | succ m ih =>
      intro acc
      rw [List.replicate_succ, List.replicate_succ, List.foldl_cons, List.flatten_cons]
      have e : acc.toArray ++ #[c] = (acc ++ [c]).toArray := by simp
      rw [e, ih (acc ++ [c])]
      simp
  have := key n []
  rw [List.nil_append] at this
  exact this
theorem op_mulS : OpR X (binaryOp .Mult) (fun x y H Q => ∃ (c : Nat) (j : Int), x = .str ⟨#[c]⟩ ∧ y = .int j ∧ 0 ≤ j ∧ j ≤ 10000 ∧ Q (.str ⟨(List.replicate j.toNat [c]).flatten.toArray⟩) H) := by
  intro pins s σ H x y v u Q I rx ry h
  obtain ⟨c, j, rfl, rfl, h0, h1, q⟩ := h
  obtain ⟨t, rfl⟩ := rx
  obtain ⟨t', rfl⟩ := ry
  have hlen : (⟨#[c]⟩ : Str).length = 1 := rfl
  refine PySem.P.mul_str ?_ (fun hj _ => ?_) (fun hj _ => ?_) ?_
  · rw [decide_eq_false (by omega), decide_eq_false (by omega)]; rfl
  · rw [hlen]
    have h2 : (1 : Int) ≤ (2 ^ 63 - 1) / j := by
      rw [Int.le_ediv_iff_mul_le (by omega)]
      omega
    show ¬ ((1 : Nat) : Int) > _
    omega
  · rw [hlen, Nat.one_mul]
    have : j.toNat ≤ 10000 := by omega
    unfold Builtin.Str.tooLong
    rw [decide_eq_false]
    rw [sizeLine_eq]
    omega
  · by_cases hj : j < 1
    · have e : j = 0 := by omega
      subst e
      rw [if_pos (by decide)]
      exact ⟨by decide, ⟨.str _, H, I.tok _, ⟨_, rfl⟩, q⟩⟩
    · rw [if_neg hj]
      by_cases h1' : j = 1
      · subst h1'
        rw [if_pos (show ((1 : Int) == 1 || (⟨#[c]⟩ : Str).length == 0) = true from rfl)]
        exact ⟨.str _, H, I, ⟨_, rfl⟩, q⟩
      · have hf : (j == 1 || (⟨#[c]⟩ : Str).length == 0) = false := by
          have : (j == 1) = false := beq_eq_false_iff_ne.mpr h1'
          rw [this, hlen]; rfl
        rw [if_neg (by rw [hf]; exact Bool.false_ne_true), rep_flat1]
        refine ⟨?_, ⟨.str _, H, I.tok _, ⟨_, rfl⟩, q⟩⟩
        show (⟨(List.replicate j.toNat [c]).flatten.toArray⟩ : Str).length ≤ sizeLine
        rw [sx_len, sizeLine_eq]
        simp
        omega
theorem op_bin (o : BOp) : OpR X (binaryOp o.op) (rB X.K o) := by
  intro pins s σ H x y v u Q I rx ry h
  obtain ⟨F, d1, d2, val, sm, l1, l2, e, q⟩ := h
  cases o <;> cases d1 <;> cases d2 <;> try (exact nomatch (show (R.bad : R Val) = R.ok val from e))
  case add.int.int i j =>
    obtain rfl := lr_int l1; obtain rfl := lr_int l2
    rw [binD] at e; cases e
    exact op_add pins s σ H _ _ v u Q I rx ry ⟨i, j, rfl, rfl, endV sm q rfl rp_int⟩
  case add.str.str a b =>
    obtain rfl := lr_str l1; obtain rfl := lr_str l2
    rw [binD] at e
    split at e
    · rename_i hz
      cases e
      refine op_add_str pins s σ H _ _ v u Q I rx ry ⟨_, _, rfl, rfl, by rw [sx_len, sx_len, ← line_eq]; exact hz, ?_⟩
      rw [sx_app]
      exact endV sm q rfl rp_str
    · cases e
  case add.lst.lst a b =>
    obtain ⟨p, vs, rfl, hp, r1⟩ := l1
    obtain ⟨p2, ws, rfl, hp2, r2⟩ := l2
    rw [binD] at e
    split at e
    · rename_i hz
      cases e
      exact op_cat pins s σ H _ _ v u Q I rx ry ⟨p, p2, vs, ws, rfl, rfl, hp, hp2, by rw [← r1.len, ← r2.len, ← line_eq]; exact hz, endL sm q rfl (r1.app r2)⟩
    · cases e
  case add.tup.tup a b =>
    obtain ⟨p, vs, rfl, fp, hp, r1⟩ := lr_tup sm l1
    obtain ⟨p2, ws, rfl, fp2, hp2, r2⟩ := lr_tup sm l2
    rw [binD] at e
    split at e
    · rename_i hz
      cases e
      refine op_catA pins s σ H _ _ v u Q I rx ry ⟨p, p2, vs, ws, rfl, rfl, SqT.of hp, SqT.of hp2, by rw [← r1.len, ← r2.len, ← line_eq]; exact hz, fun e0 => ?_, fun _ e0 => ?_, fun _ _ => endT sm q rfl (r1.app r2)⟩
      · have ea : a = [] := List.eq_nil_of_length_eq_zero (by rw [r1.len, e0]; rfl)
        subst ea
        exact endV sm q rfl (rp_tup fp2 r2)
      · have ea : b = [] := List.eq_nil_of_length_eq_zero (by rw [r2.len, e0]; rfl)
        subst ea
        rw [List.append_nil] at q
        exact endV sm q rfl (rp_tup fp r1)
    · cases e
  case sub.int.int i j =>
    obtain rfl := lr_int l1; obtain rfl := lr_int l2
    rw [binD] at e; cases e
    exact op_sub pins s σ H _ _ v u Q I rx ry ⟨i, j, rfl, rfl, endV sm q rfl rp_int⟩
  case mul.int.int i j =>
    obtain rfl := lr_int l1; obtain rfl := lr_int l2
    rw [binD] at e
    split at e
    · rename_i hz
      cases e
      exact op_mulB pins s σ H _ _ v u Q I rx ry ⟨i, j, rfl, rfl, hz, endV sm q rfl rp_int⟩
    · cases e
  case mul.str.int a j =>
    obtain rfl := lr_str l1; obtain rfl := lr_int l2
    rw [binD] at e
    split at e
    · rename_i hz
      cases e
      obtain ⟨_, h1, h2, h3⟩ := hz
      obtain ⟨c, rfl⟩ : ∃ c, a = [c] := by
        cases a with
        | nil => cases h1
        | cons c r =>
          cases r with
          | nil => exact ⟨c, rfl⟩
          | cons _ _ => simp at h1
      exact op_mulS pins s σ H _ _ v u Q I rx ry ⟨c, j, rfl, rfl, h2, h3, endV sm q rfl rp_str⟩
    · cases e
  case mul.lst.int a j =>
    obtain ⟨p, vs, rfl, hp, r1⟩ := l1
    obtain rfl := lr_int l2
    rw [binD] at e
    split at e
    · rename_i hz
      cases e
      obtain ⟨h1, h2, h3⟩ := hz
      exact op_rep pins s σ H _ _ v u Q I rx ry ⟨p, j, vs, rfl, rfl, hp, h2, h3, by rw [← r1.len, ← line_eq]; exact h1, endL sm q rfl (r1.rep _)⟩
    · cases e
  case fdiv.int.int i j =>
    obtain rfl := lr_int l1; obtain rfl := lr_int l2
    rw [binD] at e
    split at e
    · rename_i hz
      cases e
      exact op_divB pins s σ H _ _ v u Q I rx ry ⟨i, j, rfl, rfl, hz, endV sm q rfl rp_int⟩
    · cases e
  case mod.int.int i j =>
    obtain rfl := lr_int l1; obtain rfl := lr_int l2
    rw [binD] at e
    split at e
    · rename_i hz
      cases e
      exact op_mod pins s σ H _ _ v u Q I rx ry ⟨i, j, rfl, rfl, hz, endV sm q rfl rp_int⟩
    · cases e
  case pow.int.int i j =>
    obtain rfl := lr_int l1; obtain rfl := lr_int l2
    rw [binD] at e
    split at e
    · rename_i hz
      cases e
      exact op_pow pins s σ H _ _ v u Q I rx ry ⟨i, j, rfl, rfl, (of_decide_eq_true (show decide (0 ≤ j ∧ j ≤ 1000000 ∧ i.natAbs < 2 ^ 64) = true from hz) : 0 ≤ j ∧ j ≤ 1000000 ∧ i.natAbs < 2 ^ 64), endV sm q rfl rp_int⟩
    · cases e
end
end Fv
end
section
set_option maxHeartbeats 1000000
namespace Fv
open PySem PySem.Spec PyProof.Rows L2
mutual
def D.py : D → PyData
  | .non => .none
  | .bl b => .bool b
  | .int i => .int i
  | .str s => .str ⟨s.toArray⟩
  | .lst xs => .list (D.pys xs)
  | .tup xs => .tuple (D.pys xs)
  | _ => .none
def D.pys : List D → List PyData
  | [] => []
  | x :: xs => x.py :: D.pys xs
end
section
variable {K : PySem.W.Frag} {F H : Hp}
theorem cl_lst {n : Nat} {xs : List D} (h : D.cl n (.lst xs) = true) : ∃ m, n = m + 1 ∧ xs.all (D.cl m) = true := by
  cases n with
  | zero => exact absurd (show false = true from h) Bool.false_ne_true
  | succ m => exact ⟨m, rfl, h⟩
theorem cl_tup {n : Nat} {xs : List D} (h : D.cl n (.tup xs) = true) : ∃ m, n = m + 1 ∧ xs.all (D.cl m) = true := by
  cases n with
  | zero => exact absurd (show false = true from h) Bool.false_ne_true
  | succ m => exact ⟨m, rfl, h⟩
theorem cl_bl {n : Nat} {b : Bool} (h : D.cl n (.bl b) = true) : False := by
  cases n <;> exact absurd (show false = true from h) Bool.false_ne_true
theorem cl_dic {n : Nat} {a b : List D} (h : D.cl n (.dic a b) = true) : False := by
  cases n <;> exact absurd (show false = true from h) Bool.false_ne_true
theorem cl_ins {n : Nat} {a : String} {b : List String} {d : List D} (h : D.cl n (.ins a b d) = true) : False := by
  cases n <;> exact absurd (show false = true from h) Bool.false_ne_true
theorem cl_scr {n : Nat} {b : List Int} (h : D.cl n (.scr b) = true) : False := by
  cases n <;> exact absurd (show false = true from h) Bool.false_ne_true
theorem cl_exc {n : Nat} {a : String} {b : List String} {d : List D} (h : D.cl n (.exc a b d) = true) : False := by
  cases n <;> exact absurd (show false = true from h) Bool.false_ne_true
theorem cl_str {n : Nat} {s : Tx} (h : D.cl n (.str s) = true) : (∀ c ∈ s, c < 128) ∧ s.length ≤ LINE := by
  have h2 : (s.all (· < 128) && decide (s.length ≤ LINE)) = true := by cases n <;> exact h
  rw [Bool.and_eq_true] at h2
  refine ⟨fun c hc => ?_, of_decide_eq_true h2.2⟩
  have := List.all_eq_true.mp h2.1 c hc
  exact of_decide_eq_true this
mutual
theorem dp_of : ∀ (n : Nat) (x : D) (v : V), x.cl n = true → Rp K H x v → Dp K H v x.py
  | n, .non, v, _, h => by rw [Rp] at h; subst h; rw [D.py]; exact .non
  | n, .bl b, v, c, h => (cl_bl c).elim
  | n, .int i, v, _, h => by rw [Rp] at h; subst h; rw [D.py]; exact .int i
  | n, .str s, v, _, h => by rw [Rp] at h; subst h; rw [D.py]; exact .str _
  | n, .lst xs, v, c, h => by
    obtain ⟨m, rfl, c⟩ := cl_lst c
    rw [Rp] at h
    obtain ⟨a, vs, rfl, e2, e3⟩ := h
    rw [D.py]
    exact .lst (SqL.of e2) (dps_of m xs vs c e3)
  | n, .tup xs, v, c, h => by
    obtain ⟨m, rfl, c⟩ := cl_tup c
    rw [Rp] at h
    obtain ⟨a, vs, rfl, e2, e3⟩ := h
    rw [D.py]
    exact .tup (SqT.of e2) (dps_of m xs vs c e3)
  | n, .dic _ _, _, c, _ => (cl_dic c).elim
  | n, .ins _ _ _, _, c, _ => (cl_ins c).elim
  | n, .scr _, _, c, _ => (cl_scr c).elim
  | n, .exc _ _ _, _, c, _ => (cl_exc c).elim
theorem dps_of : ∀ (n : Nat) (xs : List D) (vs : List V), xs.all (D.cl n) = true → RpL K H xs vs → DpAll K H vs (D.pys xs)
  | n, [], vs, _, h => by rw [RpL] at h; subst h; rw [D.pys]; exact .nil
  | n, x :: xs, vs, c, h => by
    rw [RpL] at h
    obtain ⟨v, r, rfl, h1, h2⟩ := h
    rw [List.all_cons, Bool.and_eq_true] at c
    rw [D.pys]
    exact .cons (dp_of n x v c.1 h1) (dps_of n xs r c.2 h2)
end
theorem strOk_of {s : Tx} (h : ∀ c ∈ s, c < 128) (hl : s.length ≤ LINE) : PyData.strOk ⟨s.toArray⟩ = true := by
  unfold PyData.strOk
  simp
  first
    | exact fun c hc => by have := h c hc; omega
    | (refine ⟨fun c hc => ?_, ?_⟩ <;> first | (have := h c hc; omega) | (rw [← line_eq]; exact hl))
mutual
theorem lay_of : ∀ (n : Nat) (x : D), x.cl n = true → x.py.canLay0 = true
  | n, .non, _ => by rw [D.py]; rfl
  | n, .bl b, c => (cl_bl c).elim
  | n, .int i, _ => by rw [D.py]; rfl
  | n, .str s, c => by
    rw [D.py, PyData.canLay0]
    exact strOk_of (cl_str c).1 (cl_str c).2
  | n, .lst xs, c => by
    obtain ⟨m, rfl, c⟩ := cl_lst c
    rw [D.py, PyData.canLay0]
    exact lays_of m xs c
  | n, .tup xs, c => by
    obtain ⟨m, rfl, c⟩ := cl_tup c
    rw [D.py, PyData.canLay0]
    exact lays_of m xs c
  | n, .dic _ _, c => (cl_dic c).elim
  | n, .ins _ _ _, c => (cl_ins c).elim
  | n, .scr _, c => (cl_scr c).elim
  | n, .exc _ _ _, c => (cl_exc c).elim
theorem lays_of : ∀ (n : Nat) (xs : List D), xs.all (D.cl n) = true → PyData.canLayAll0 (D.pys xs) = true
  | n, [], _ => by rw [D.pys, PyData.canLayAll0]
  | n, x :: xs, c => by
    rw [List.all_cons, Bool.and_eq_true] at c
    rw [D.pys, PyData.canLayAll0, lay_of n x c.1, lays_of n xs c.2]
    rfl
end
mutual
theorem dep_of : ∀ (n : Nat) (x : D), x.cl n = true → x.py.depth ≤ n
  | n, .non, _ => by rw [D.py, PyData.depth]; exact Nat.zero_le _
  | n, .bl b, c => (cl_bl c).elim
  | n, .int i, _ => by rw [D.py, PyData.depth]; exact Nat.zero_le _
  | n, .str s, c => by rw [D.py, PyData.depth]; exact Nat.zero_le _
  | n, .lst xs, c => by
    obtain ⟨m, rfl, c⟩ := cl_lst c
    rw [D.py, PyData.depth]
    exact Nat.succ_le_succ (deps_of m xs c)
  | n, .tup xs, c => by
    obtain ⟨m, rfl, c⟩ := cl_tup c
    rw [D.py, PyData.depth]
    exact Nat.succ_le_succ (deps_of m xs c)
  | n, .dic _ _, c => (cl_dic c).elim
  | n, .ins _ _ _, c => (cl_ins c).elim
  | n, .scr _, c => (cl_scr c).elim
  | n, .exc _ _ _, c => (cl_exc c).elim
theorem deps_of : ∀ (n : Nat) (xs : List D), xs.all (D.cl n) = true → PyData.depthAll (D.pys xs) ≤ n
  | n, [], _ => by rw [D.pys, PyData.depthAll]; exact Nat.zero_le _
  | n, x :: xs, c => by
    rw [List.all_cons, Bool.and_eq_true] at c
    rw [D.pys, PyData.depthAll]
    exact Nat.max_le.mpr ⟨dep_of n x c.1, deps_of n xs c.2⟩
end
theorem str_beq {s t : Tx} : ((⟨s.toArray⟩ : Str) == ⟨t.toArray⟩) = decide (s = t) := by
  rw [Bool.eq_iff_iff]
  simp
theorem dec_inj {p q : Prop} [Decidable p] [Decidable q] (h : p ↔ q) : decide p = decide q := by
  by_cases hp : p
  · rw [decide_eq_true hp, decide_eq_true (h.mp hp)]
  · rw [decide_eq_false hp, decide_eq_false (fun z => hp (h.mpr z))]
mutual
theorem eqv_of : ∀ (n m : Nat) (x y : D), x.cl n = true → y.cl m = true → PyData.eqv x.py y.py = decide (x = y)
  | n, m, x, .bl _, _, c => (cl_bl c).elim
  | n, m, x, .dic _ _, _, c => (cl_dic c).elim
  | n, m, x, .ins _ _ _, _, c => (cl_ins c).elim
  | n, m, x, .scr _, _, c => (cl_scr c).elim
  | n, m, x, .exc _ _ _, _, c => (cl_exc c).elim
  | n, m, .bl _, y, c, _ => (cl_bl c).elim
  | n, m, .dic _ _, _, c, _ => (cl_dic c).elim
  | n, m, .ins _ _ _, _, c, _ => (cl_ins c).elim
  | n, m, .scr _, _, c, _ => (cl_scr c).elim
  | n, m, .exc _ _ _, _, c, _ => (cl_exc c).elim
  | n, m, .non, .non, _, _ => by rw [D.py, PyData.eqv, decide_eq_true rfl]
  | n, m, .non, .int _, _, _ => by rw [D.py, D.py, PyData.eqv, decide_eq_false (fun z => nomatch z)]
  | n, m, .non, .str _, _, _ => by rw [D.py, D.py, PyData.eqv, decide_eq_false (fun z => nomatch z)]
  | n, m, .non, .lst _, _, _ => by rw [D.py, D.py, PyData.eqv, decide_eq_false (fun z => nomatch z)]
  | n, m, .non, .tup _, _, _ => by rw [D.py, D.py, PyData.eqv, decide_eq_false (fun z => nomatch z)]
  | n, m, .int _, .non, _, _ => by rw [D.py, D.py, PyData.eqv, decide_eq_false (fun z => nomatch z)]
  | n, m, .int i, .int j, _, _ => by
    rw [D.py, D.py, PyData.eqv, Bool.beq_eq_decide_eq]
    exact dec_inj ⟨fun e => by rw [e], fun e => by injection e⟩
  | n, m, .int _, .str _, _, _ => by rw [D.py, D.py, PyData.eqv, decide_eq_false (fun z => nomatch z)]
  | n, m, .int _, .lst _, _, _ => by rw [D.py, D.py, PyData.eqv, decide_eq_false (fun z => nomatch z)]
  | n, m, .int _, .tup _, _, _ => by rw [D.py, D.py, PyData.eqv, decide_eq_false (fun z => nomatch z)]
  | n, m, .str _, .non, _, _ => by rw [D.py, D.py, PyData.eqv, decide_eq_false (fun z => nomatch z)]
  | n, m, .str _, .int _, _, _ => by rw [D.py, D.py, PyData.eqv, decide_eq_false (fun z => nomatch z)]
  | n, m, .str s, .str t, _, _ => by
    rw [D.py, D.py, PyData.eqv, str_beq]
    exact dec_inj ⟨fun e => by rw [e], fun e => by injection e⟩
  | n, m, .str _, .lst _, _, _ => by rw [D.py, D.py, PyData.eqv, decide_eq_false (fun z => nomatch z)]
  | n, m, .str _, .tup _, _, _ => by rw [D.py, D.py, PyData.eqv, decide_eq_false (fun z => nomatch z)]
  | n, m, .lst _, .non, _, _ => by rw [D.py, D.py, PyData.eqv, decide_eq_false (fun z => nomatch z)]
  | n, m, .lst _, .int _, _, _ => by rw [D.py, D.py, PyData.eqv, decide_eq_false (fun z => nomatch z)]
  | n, m, .lst _, .str _, _, _ => by rw [D.py, D.py, PyData.eqv, decide_eq_false (fun z => nomatch z)]
  | n, m, .lst xs, .lst ys, c, d => by
    obtain ⟨n, rfl, c⟩ := cl_lst c
    obtain ⟨m, rfl, d⟩ := cl_lst d
    rw [D.py, D.py, PyData.eqv, eqvs_of n m xs ys c d]
    exact dec_inj ⟨fun e => by rw [e], fun e => by injection e⟩
  | n, m, .lst _, .tup _, _, _ => by rw [D.py, D.py, PyData.eqv, decide_eq_false (fun z => nomatch z)]
  | n, m, .tup _, .non, _, _ => by rw [D.py, D.py, PyData.eqv, decide_eq_false (fun z => nomatch z)]
  | n, m, .tup _, .int _, _, _ => by rw [D.py, D.py, PyData.eqv, decide_eq_false (fun z => nomatch z)]
  | n, m, .tup _, .str _, _, _ => by rw [D.py, D.py, PyData.eqv, decide_eq_false (fun z => nomatch z)]
  | n, m, .tup _, .lst _, _, _ => by rw [D.py, D.py, PyData.eqv, decide_eq_false (fun z => nomatch z)]
  | n, m, .tup xs, .tup ys, c, d => by
    obtain ⟨n, rfl, c⟩ := cl_tup c
    obtain ⟨m, rfl, d⟩ := cl_tup d
    rw [D.py, D.py, PyData.eqv, eqvs_of n m xs ys c d]
    exact dec_inj ⟨fun e => by rw [e], fun e => by injection e⟩
theorem eqvs_of : ∀ (n m : Nat) (xs ys : List D), xs.all (D.cl n) = true → ys.all (D.cl m) = true → PyData.eqvAll (D.pys xs) (D.pys ys) = decide (xs = ys)
  | n, m, [], [], _, _ => by rw [D.pys, PyData.eqvAll, decide_eq_true rfl]
  | n, m, [], y :: ys, _, _ => by rw [D.pys, D.pys, PyData.eqvAll, decide_eq_false (fun z => nomatch z)]
  | n, m, x :: xs, [], _, _ => by rw [D.pys, D.pys, PyData.eqvAll, decide_eq_false (fun z => nomatch z)]
  | n, m, x :: xs, y :: ys, c, d => by
    rw [List.all_cons, Bool.and_eq_true] at c d
    rw [D.pys, D.pys, PyData.eqvAll, eqv_of n m x y c.1 d.1, eqvs_of n m xs ys c.2 d.2, ← Bool.decide_and]
    exact dec_inj ⟨fun e => by rw [e.1, e.2], fun e => by injection e with e1 e2; exact ⟨e1, e2⟩⟩
end
theorem shaped_of {n : Nat} {x : D} (h : x.cl n = true) (hn : n ≤ 64) : SeqAt.shaped x.py = true := by
  unfold SeqAt.shaped
  rw [lay_of n x h, decide_eq_true (Nat.le_trans (dep_of n x h) hn)]
  rfl

def rC (K : PySem.W.Frag) (o : COp) : R2 := fun x y H Q => ∃ F d1 d2 b, Same F H ∧ LR K F H d1 x ∧ LR K F H d2 y ∧ cmpD o d1 d2 = .ok b ∧ Q (.bl b) H
theorem eqD_ok {a b : D} {c : Bool} (h : eqD a b = .ok c) : clb a = true ∧ clb b = true ∧ c = PyData.eqv a.py b.py := by
  have gen : ∀ {a b : D} {c : Bool}, (if clb a && clb b then R.ok (decide (a = b)) else R.bad) = R.ok c →
      (∀ i j, ¬ (a = .bl i ∧ b = .int j)) → (∀ i j, ¬ (a = .int i ∧ b = .bl j)) → (∀ i j, ¬ (a = .bl i ∧ b = .bl j)) → clb a = true ∧ clb b = true ∧ c = PyData.eqv a.py b.py := fun {a b c} h n1 n2 n3 => by
    by_cases hc : (clb a && clb b) = true
    · rw [if_pos hc] at h
      rw [Bool.and_eq_true] at hc
      have ka := hc.1
      have kb := hc.2
      refine ⟨ka, kb, ?_⟩
      cases h
      cases a with
      | bl i =>
        cases b with
        | bl j => exact absurd ⟨rfl, rfl⟩ (n3 i j)
        | int j => exact absurd ⟨rfl, rfl⟩ (n1 i j)
        | dic _ _ => exact (cl_dic kb).elim
        | ins _ _ => exact (cl_ins kb).elim
        | scr _ => exact (cl_scr kb).elim
        | exc _ _ _ => exact (cl_exc kb).elim
        | _ => rw [D.py, D.py, PyData.eqv, decide_eq_false (fun z => nomatch z)]
      | int i =>
        cases b with
        | bl j => exact absurd ⟨rfl, rfl⟩ (n2 i j)
        | _ => exact (eqv_of 5 5 _ _ ka kb).symm
      | dic _ _ => exact (cl_dic ka).elim
      | ins _ _ => exact (cl_ins ka).elim
      | scr _ => exact (cl_scr ka).elim
      | exc _ _ _ => exact (cl_exc ka).elim
      | _ =>
        cases b with
        | bl j => rw [D.py, D.py, PyData.eqv, decide_eq_false (fun z => nomatch z)]
        | _ => exact (eqv_of 5 5 _ _ ka kb).symm
    · rw [if_neg hc] at h
      cases h
  cases a with
  | bl i =>
    cases b with
    | bl j =>
      rw [eqD] at h
      cases h
      exact ⟨rfl, rfl, by rw [D.py, D.py, PyData.eqv]⟩
    | int j => rw [eqD] at h; cases h
    | _ => exact gen (by simpa [eqD] using h) (fun i j z => by cases z.2) (fun i j z => by cases z.1) (fun i j z => by cases z.2)
  | int i =>
    cases b with
    | bl j => rw [eqD] at h; cases h
    | _ => exact gen (by simpa [eqD] using h) (fun i j z => by cases z.1) (fun i j z => by cases z.2) (fun i j z => by cases z.1)
  | _ => exact gen (by cases b <;> simpa [eqD] using h) (fun i j z => by cases z.1) (fun i j z => by cases z.1) (fun i j z => by cases z.1)
theorem clb_dp {x : D} {v : V} (c : clb x = true) (h : Rp K H x v) : Dp K H v x.py ∧ SeqAt.shaped x.py = true := by
  cases x with
  | bl b => rw [Rp] at h; subst h; rw [D.py]; exact ⟨.bl b, rfl⟩
  | _ => exact ⟨dp_of 5 _ _ c h, shaped_of c (by decide)⟩
theorem flat0 {x : D} {v : V} (c : x.cl 0 = true) (h : Rp K H x v) : flatV v = true := by
  cases x with
  | non => rw [Rp] at h; subst h; rfl
  | int i => rw [Rp] at h; subst h; rfl
  | str s => rw [Rp] at h; subst h; rfl
  | bl b => exact (cl_bl c).elim
  | _ => exact absurd (show false = true from c) Bool.false_ne_true
theorem flats0 : ∀ {xs : List D} {vs : List V}, xs.all (D.cl 0) = true → RpL K H xs vs → vs.all flatV = true
  | [], vs, _, h => by rw [RpL] at h; subst h; rfl
  | x :: xs, vs, c, h => by
    rw [RpL] at h
    obtain ⟨v, r, rfl, h1, h2⟩ := h
    rw [List.all_cons, Bool.and_eq_true] at c
    rw [List.all_cons, flat0 c.1 h1, flats0 c.2 h2]
    rfl
theorem eqV0 {x y : D} {v w : V} (c : x.cl 0 = true) (d : y.cl 0 = true) (h : Rp K H x v) (g : Rp K H y w) : eqV w v = decide (x = y) := by
  cases x with
  | bl b => exact (cl_bl c).elim
  | lst _ => exact absurd (show false = true from c) Bool.false_ne_true
  | tup _ => exact absurd (show false = true from c) Bool.false_ne_true
  | dic _ _ => exact (cl_dic c).elim
  | ins _ _ => exact (cl_ins c).elim
  | scr _ => exact (cl_scr c).elim
  | exc _ _ _ => exact (cl_exc c).elim
  | non =>
    cases y with
    | bl b => exact (cl_bl d).elim
    | lst _ => exact absurd (show false = true from d) Bool.false_ne_true
    | tup _ => exact absurd (show false = true from d) Bool.false_ne_true
    | dic _ _ => exact (cl_dic d).elim
    | ins _ _ => exact (cl_ins d).elim
    | scr _ => exact (cl_scr d).elim
    | exc _ _ _ => exact (cl_exc d).elim
    | non => rw [Rp] at h; rw [Rp] at g; subst h; subst g; rw [decide_eq_true rfl]; rfl
    | int j => rw [Rp] at h; rw [Rp] at g; subst h; subst g; rw [decide_eq_false (fun z => nomatch z)]; rfl
    | str t => rw [Rp] at h; rw [Rp] at g; subst h; subst g; rw [decide_eq_false (fun z => nomatch z)]; rfl
  | int i =>
    cases y with
    | bl b => exact (cl_bl d).elim
    | lst _ => exact absurd (show false = true from d) Bool.false_ne_true
    | tup _ => exact absurd (show false = true from d) Bool.false_ne_true
    | dic _ _ => exact (cl_dic d).elim
    | ins _ _ => exact (cl_ins d).elim
    | scr _ => exact (cl_scr d).elim
    | exc _ _ _ => exact (cl_exc d).elim
    | non => rw [Rp] at h; rw [Rp] at g; subst h; subst g; rw [decide_eq_false (fun z => nomatch z)]; rfl
    | int j =>
      rw [Rp] at h; rw [Rp] at g; subst h; subst g
      show (j == i) = _
      rw [Bool.beq_eq_decide_eq]
      exact dec_inj ⟨fun e => by rw [e], fun e => by injection e with e; exact e.symm⟩
    | str t => rw [Rp] at h; rw [Rp] at g; subst h; subst g; rw [decide_eq_false (fun z => nomatch z)]; rfl
  | str s =>
    cases y with
    | bl b => exact (cl_bl d).elim
    | lst _ => exact absurd (show false = true from d) Bool.false_ne_true
    | tup _ => exact absurd (show false = true from d) Bool.false_ne_true
    | dic _ _ => exact (cl_dic d).elim
    | ins _ _ => exact (cl_ins d).elim
    | scr _ => exact (cl_scr d).elim
    | exc _ _ _ => exact (cl_exc d).elim
    | non => rw [Rp] at h; rw [Rp] at g; subst h; subst g; rw [decide_eq_false (fun z => nomatch z)]; rfl
    | int j => rw [Rp] at h; rw [Rp] at g; subst h; subst g; rw [decide_eq_false (fun z => nomatch z)]; rfl
    | str t =>
      rw [Rp] at h; rw [Rp] at g; subst h; subst g
      show ((⟨t.toArray⟩ : Str) == ⟨s.toArray⟩) = _
      rw [str_beq]
      exact dec_inj ⟨fun e => by rw [e], fun e => by injection e with e; exact e.symm⟩
theorem inV0 {x : D} {v : V} (c : x.cl 0 = true) (h : Rp K H x v) : ∀ {xs : List D} {vs : List V}, xs.all (D.cl 0) = true → RpL K H xs vs → inV v vs = decide (x ∈ xs)
  | [], vs, _, g => by
    rw [RpL] at g; subst g
    rw [decide_eq_false (fun z => nomatch z)]; rfl
  | y :: xs, vs, d, g => by
    rw [RpL] at g
    obtain ⟨w, r, rfl, h1, h2⟩ := g
    rw [List.all_cons, Bool.and_eq_true] at d
    have ih := inV0 c h d.2 h2
    unfold inV at ih ⊢
    rw [List.any_cons, ih, eqV0 c d.1 h h1, ← Bool.decide_or]
    exact dec_inj ⟨fun e => by rw [List.mem_cons]; exact e, fun e => by rw [List.mem_cons] at e; exact e⟩
theorem ints_rp : ∀ {xs : List D} {vs : List V} {ns : List Int}, RpL K H xs vs → intsOf xs = some ns → vs = ns.map V.int := RpL.ints
end
section
variable {X : Cx}
theorem op_cmp (o : COp) (hu : X.A.units + 64 < cLine) : OpR X (compareOp o.op) (rC X.K o) := by
  intro pins s σ H x y v u Q I rx ry h
  obtain ⟨F, d1, d2, b, sm, l1, l2, e, q⟩ := h
  have eqc : ∀ {c : Bool}, eqD d1 d2 = .ok c → Dp X.K H x d1.py ∧ Dp X.K H y d2.py ∧ SeqAt.shaped d1.py = true ∧ SeqAt.shaped d2.py = true ∧ c = PyData.eqv d1.py d2.py := fun {c} e => by
    obtain ⟨k1, k2, k3⟩ := eqD_ok e
    obtain ⟨a1, a2⟩ := clb_dp k1 (l1.full sm)
    obtain ⟨b1, b2⟩ := clb_dp k2 (l2.full sm)
    exact ⟨a1, b1, a2, b2, k3⟩
  cases o with
  | eq =>
    obtain ⟨p1, p2, p3, p4, p5⟩ := eqc e
    exact op_eqD hu pins s σ H x y v u Q I rx ry ⟨_, _, p1, p2, p3, p4, by rw [← p5]; exact q⟩
  | ne =>
    have e : (eqD d1 d2 >>= fun c => pure (!c)) = R.ok b := e
    cases ec : eqD d1 d2 with
    | ok c =>
      rw [ec] at e
      cases e
      obtain ⟨p1, p2, p3, p4, p5⟩ := eqc ec
      exact op_neD hu pins s σ H x y v u Q I rx ry ⟨_, _, p1, p2, p3, p4, by rw [← p5]; exact q⟩
    | er c fs => rw [ec] at e; cases e
    | bad => rw [ec] at e; cases e
  | lt =>
    cases d1 <;> cases d2 <;> try (exact nomatch (show (R.bad : R Bool) = R.ok b from e))
    case int.int i j =>
      obtain rfl := lr_int l1; obtain rfl := lr_int l2
      cases e
      exact op_lt pins s σ H _ _ v u Q I rx ry ⟨i, j, rfl, rfl, q⟩
    case tup.tup a c =>
      obtain ⟨p, vs, rfl, _, hp, r1⟩ := lr_tup sm l1
      obtain ⟨p2, ws, rfl, _, hp2, r2⟩ := lr_tup sm l2
      have e : ltTup a c = .ok b := e
      unfold ltTup at e
      cases e1 : intsOf a with
      | none => rw [e1] at e; cases e
      | some ns =>
        cases e2 : intsOf c with
        | none => rw [e1, e2] at e; cases e
        | some ms =>
          rw [e1, e2] at e
          cases e
          have v1 := RpL.ints r1 e1
          have v2 := RpL.ints r2 e2
          subst v1 v2
          exact op_ltT (by omega) pins s σ H _ _ v u Q I rx ry ⟨p, p2, ns, ms, rfl, rfl, SqT.of hp, SqT.of hp2, q⟩
  | le =>
    cases d1 <;> cases d2 <;> try (exact nomatch (show (R.bad : R Bool) = R.ok b from e))
    case int.int i j =>
      obtain rfl := lr_int l1; obtain rfl := lr_int l2
      cases e
      exact op_le pins s σ H _ _ v u Q I rx ry ⟨i, j, rfl, rfl, q⟩
  | gt =>
    cases d1 <;> cases d2 <;> try (exact nomatch (show (R.bad : R Bool) = R.ok b from e))
    case int.int i j =>
      obtain rfl := lr_int l1; obtain rfl := lr_int l2
      cases e
      exact op_gt pins s σ H _ _ v u Q I rx ry ⟨i, j, rfl, rfl, q⟩
  | ge =>
    cases d1 <;> cases d2 <;> try (exact nomatch (show (R.bad : R Bool) = R.ok b from e))
    case int.int i j =>
      obtain rfl := lr_int l1; obtain rfl := lr_int l2
      cases e
      exact op_ge pins s σ H _ _ v u Q I rx ry ⟨i, j, rfl, rfl, q⟩
  | inn =>
    have lst : ∀ {xs : List D}, (if d1.cl 0 && xs.all (D.cl 0) then R.ok (decide (d1 ∈ xs)) else R.bad) = R.ok b → (∃ p vs, y = .ref p ∧ (H p = some (.lst vs) ∨ H p = some (.tup vs)) ∧ RpL X.K H xs vs) →
        wpAny (model X.prog X.w) X.A (compareOp .In v u) (EP X pins σ Q) X.xe s := fun {xs} e hy => by
      obtain ⟨p, vs, rfl, hp, r⟩ := hy
      split at e
      · rename_i hc
        rw [Bool.and_eq_true] at hc
        cases e
        have r1 := l1.full sm
        refine op_in_seq pins s σ H _ _ v u Q I rx ry ⟨p, vs, rfl, ?_, flat0 hc.1 r1, flats0 hc.2 r, ?_⟩
        · rcases hp with hp | hp
          · exact .inl (SqL.of hp)
          · exact .inr (SqT.of hp)
        · rw [if_neg Bool.false_ne_true, inV0 hc.1 r1 hc.2 r]
          exact q
      · cases e
    cases d2 with
    | lst xs =>
      obtain ⟨p, vs, e1, hp, r⟩ := l2
      exact lst (by cases d1 <;> exact e) ⟨p, vs, e1, .inl hp, RpL.mono sm _ _ r⟩
    | tup xs =>
      obtain ⟨p, vs, e1, _, hp, r⟩ := lr_tup sm l2
      exact lst (by cases d1 <;> exact e) ⟨p, vs, e1, .inr hp, RpL.mono sm _ _ r⟩
    | str b2 =>
      cases d1 <;> try (exact nomatch (show (R.bad : R Bool) = R.ok b from e))
      case str a =>
        obtain rfl := lr_str l1; obtain rfl := lr_str l2
        cases e
        refine op_in_str pins s σ H _ _ v u Q I rx ry ⟨_, _, rfl, rfl, ?_⟩
        rw [sx_len]
        exact q
    | _ => cases d1 <;> exact nomatch (show (R.bad : R Bool) = R.ok b from e)
  | nin =>
    have lst : ∀ {xs : List D}, (if d1.cl 0 && xs.all (D.cl 0) then R.ok (!decide (d1 ∈ xs)) else R.bad) = R.ok b → (∃ p vs, y = .ref p ∧ (H p = some (.lst vs) ∨ H p = some (.tup vs)) ∧ RpL X.K H xs vs) →
        wpAny (model X.prog X.w) X.A (compareOp .NotIn v u) (EP X pins σ Q) X.xe s := fun {xs} e hy => by
      obtain ⟨p, vs, rfl, hp, r⟩ := hy
      split at e
      · rename_i hc
        rw [Bool.and_eq_true] at hc
        cases e
        have r1 := l1.full sm
        refine op_notIn_seq pins s σ H _ _ v u Q I rx ry ⟨p, vs, rfl, ?_, flat0 hc.1 r1, flats0 hc.2 r, ?_⟩
        · rcases hp with hp | hp
          · exact .inl (SqL.of hp)
          · exact .inr (SqT.of hp)
        · rw [if_pos rfl, inV0 hc.1 r1 hc.2 r]
          exact q
      · cases e
    cases d2 with
    | lst xs =>
      obtain ⟨p, vs, e1, hp, r⟩ := l2
      exact lst (by cases d1 <;> exact e) ⟨p, vs, e1, .inl hp, RpL.mono sm _ _ r⟩
    | tup xs =>
      obtain ⟨p, vs, e1, _, hp, r⟩ := lr_tup sm l2
      exact lst (by cases d1 <;> exact e) ⟨p, vs, e1, .inr hp, RpL.mono sm _ _ r⟩
    | str b2 =>
      cases d1 <;> try (exact nomatch (show (R.bad : R Bool) = R.ok b from e))
      case str a =>
        obtain rfl := lr_str l1; obtain rfl := lr_str l2
        cases e
        refine L2.op_notIn_str pins s σ H _ _ v u Q I rx ry ⟨_, _, rfl, rfl, ?_⟩
        rw [sx_len]
        exact q
    | _ => cases d1 <;> exact nomatch (show (R.bad : R Bool) = R.ok b from e)
  | is =>
    cases d2 with
    | non =>
      obtain rfl := lr_non l2
      have r1 := l1.full sm
      refine op_isN pins s σ H _ _ v u Q I rx ry ⟨rfl, ?_⟩
      have e2 : decide (x = V.non) = b := by
        cases d1 with
        | non => rw [Rp] at r1; subst r1; cases e; rfl
        | bl b => rw [Rp] at r1; subst r1; cases e; rfl
        | int b => rw [Rp] at r1; subst r1; cases e; rfl
        | str b => rw [Rp] at r1; subst r1; cases e; rfl
        | lst b => rw [Rp] at r1; obtain ⟨a, vs, e1, _⟩ := r1; subst e1; cases e; rfl
        | tup b => rw [Rp] at r1; obtain ⟨a, vs, e1, _⟩ := r1; subst e1; cases e; rfl
        | dic _ _ => rw [Rp] at r1; exact r1.elim
        | ins _ _ _ => rw [Rp] at r1; obtain ⟨a, dx, fsV, vs, e1, _⟩ := r1; subst e1; cases e; rfl
        | scr _ => rw [Rp] at r1; obtain ⟨a, e1, _⟩ := r1; subst e1; cases e; rfl
        | exc _ _ _ => rw [Rp] at r1; obtain ⟨a, dx, fsV, vs, e1, _⟩ := r1; subst e1; cases e; rfl
      rw [e2]
      exact q
    | bl c =>
      cases d1 <;> try (exact nomatch (show (R.bad : R Bool) = R.ok b from e))
      case bl a =>
        obtain rfl := lr_bl l1; obtain rfl := lr_bl l2
        cases e
        refine op_isBl pins s σ H _ _ v u Q I rx ry ⟨a, c, rfl, rfl, ?_⟩
        rw [← Bool.beq_eq_decide_eq]
        exact q
    | _ => cases d1 <;> exact nomatch (show (R.bad : R Bool) = R.ok b from e)
  | isn =>
    cases d2 with
    | non =>
      obtain rfl := lr_non l2
      have r1 := l1.full sm
      refine op_notN pins s σ H _ _ v u Q I rx ry ⟨rfl, ?_⟩
      have e2 : (!decide (x = V.non)) = b := by
        cases d1 with
        | non => rw [Rp] at r1; subst r1; cases e; rfl
        | bl b => rw [Rp] at r1; subst r1; cases e; rfl
        | int b => rw [Rp] at r1; subst r1; cases e; rfl
        | str b => rw [Rp] at r1; subst r1; cases e; rfl
        | lst b => rw [Rp] at r1; obtain ⟨a, vs, e1, _⟩ := r1; subst e1; cases e; rfl
        | tup b => rw [Rp] at r1; obtain ⟨a, vs, e1, _⟩ := r1; subst e1; cases e; rfl
        | dic _ _ => rw [Rp] at r1; exact r1.elim
        | ins _ _ _ => rw [Rp] at r1; obtain ⟨a, dx, fsV, vs, e1, _⟩ := r1; subst e1; cases e; rfl
        | scr _ => rw [Rp] at r1; obtain ⟨a, e1, _⟩ := r1; subst e1; cases e; rfl
        | exc _ _ _ => rw [Rp] at r1; obtain ⟨a, dx, fsV, vs, e1, _⟩ := r1; subst e1; cases e; rfl
      rw [e2]
      exact q
    | bl c =>
      cases d1 <;> try (exact nomatch (show (R.bad : R Bool) = R.ok b from e))
      case bl a =>
        obtain rfl := lr_bl l1; obtain rfl := lr_bl l2
        cases e
        refine op_notBl pins s σ H _ _ v u Q I rx ry ⟨a, c, rfl, rfl, ?_⟩
        rw [← Bool.beq_eq_decide_eq]
        exact q
    | _ => cases d1 <;> exact nomatch (show (R.bad : R Bool) = R.ok b from e)
end
end Fv
end
section
set_option maxHeartbeats 1000000
namespace Fv
open PySem PySem.Spec PyProof.Rows L2
def LRs (K : PySem.W.Frag) (F H : Hp) : List D → List V → Prop
  | [], vs => vs = []
  | x :: xs, vs => ∃ v r, vs = v :: r ∧ LR K F H x v ∧ LRs K F H xs r
section
variable {K : PySem.W.Frag} {F F' H H' : Hp} {Q : VK}
theorem LRs.full : ∀ {xs : List D} {vs : List V}, Same F H → LRs K F H xs vs → RpL K H xs vs
  | [], _, _, h => by rw [RpL]; exact h
  | x :: xs, _, e, h => by
    obtain ⟨v, r, rfl, h1, h2⟩ := h
    exact RpL.cons (h1.full e) (h2.full e)
theorem LRs.grow (g : Grow F F' H H') : ∀ {xs : List D} {vs : List V}, LRs K F H xs vs → LRs K F' H' xs vs
  | [], _, h => h
  | x :: xs, _, h => by
    obtain ⟨v, r, rfl, h1, h2⟩ := h
    exact ⟨v, r, rfl, h1.grow g, LRs.grow g h2⟩
theorem LRs.len : ∀ {xs : List D} {vs : List V}, LRs K F H xs vs → xs.length = vs.length
  | [], _, h => by rw [show _ = [] from h]; rfl
  | x :: xs, _, h => by
    obtain ⟨v, r, rfl, h1, h2⟩ := h
    rw [List.length_cons, List.length_cons, LRs.len h2]
theorem LRs.one {x : D} {vs : List V} (h : LRs K F H [x] vs) : ∃ v, vs = [v] ∧ LR K F H x v := by
  obtain ⟨v, r, rfl, h1, h2⟩ := h
  rw [show r = [] from h2]
  exact ⟨v, rfl, h1⟩
theorem LRs.two {x y : D} {vs : List V} (h : LRs K F H [x, y] vs) : ∃ v w, vs = [v, w] ∧ LR K F H x v ∧ LR K F H y w := by
  obtain ⟨v, r, rfl, h1, h2⟩ := h
  obtain ⟨w, rfl, h3⟩ := LRs.one h2
  exact ⟨v, w, rfl, h1, h3⟩
theorem lr_scr {ns : List Int} {x : V} (e : Same F H) (h : LR K F H (.scr ns) x) : ∃ a, x = .ref a ∧ SqL K H a (ns.map V.int) := by
  have h1 : Rp K F (.scr ns) x := h
  rw [Rp] at h1
  obtain ⟨a, e1, e2⟩ := h1
  exact ⟨a, e1, e.seq e2⟩
theorem rpl_ints : ∀ ns : List Int, RpL K F (ns.map D.int) (ns.map V.int)
  | [] => RpL.nil
  | n :: ns => RpL.cons rp_int (rpl_ints ns)
end
theorem truth_ok {K : PySem.W.Frag} {F H : Hp} {x : D} {v : V} {k : Bool} (e : Same F H) (h : LR K F H x v) (t : x.truth = .ok k) : TruV K v H k := by
  cases x with
  | non => obtain rfl := lr_non h; cases t; rfl
  | bl b => obtain rfl := lr_bl h; cases t; rfl
  | int i => obtain rfl := lr_int h; cases t; rfl
  | str s =>
    obtain rfl := lr_str h
    have t : (if s.length ≤ LINE then R.ok (!s.isEmpty) else R.bad) = R.ok k := t
    split at t
    · rename_i hz
      cases t
      refine ⟨by rw [sx_len, ← line_eq]; exact hz, ?_⟩
      rw [sx_len]
      cases s with
      | nil => rfl
      | cons c r =>
        symm
        rw [List.length_cons]
        exact bne_iff_ne.mpr (by omega)
    · cases t
  | lst xs =>
    obtain ⟨p, vs, rfl, hp, r⟩ := h
    cases t
    refine .inl ⟨vs, SqL.of hp, ?_⟩
    have := r.len
    cases xs <;> cases vs <;> first | rfl | (simp at this)
  | tup xs =>
    obtain ⟨p, vs, rfl, _, hp, r⟩ := lr_tup e h
    cases t
    refine .inr (.inl ⟨vs, SqT.of hp, ?_⟩)
    have := r.len
    cases xs <;> cases vs <;> first | rfl | (simp at this)
  | _ => cases t
def Bi.name : Bi → Str
  | .len => "len" | .int => "int" | .str => "str" | .abs => "abs" | .min2 => "min" | .max2 => "max" | .divmod => "divmod" | .tuple => "tuple" | .list => "list" | .sum => "sum" | .all => "all" | .any => "any"
def Bi.fn : Bi → Value
  | .len => .builtin "len" | .int => .type "int" | .str => .type "str" | .abs => .builtin "abs" | .min2 => .builtin "min" | .max2 => .builtin "max" | .divmod => .builtin "divmod" | .tuple => .type "tuple" | .list => .type "list"
  | .sum => .builtin "sum" | .all => .builtin "all" | .any => .builtin "any"
def rBi (K : PySem.W.Frag) (b : Bi) : List V → Hp → VK → Prop := fun vs H Q => ∃ F ds val, Same F H ∧ LRs K F H ds vs ∧ biD b ds = .ok val ∧ ∀ F' H' v, Grow F F' H H' → VR K F' H H' val v → Q v H'
theorem itx_str (i : Int) : (toString i : Str) = ⟨(itx i).toArray⟩ := by
  unfold itx
  exact TL.ext_tl rfl
section
variable {X : Cx}
theorem cr_bi (b : Bi) (hc : X.calm = true) : CallR X b.fn (rBi X.K b) := by
  intro pins s σ H vs us Q I r h
  obtain ⟨F, ds, val, sm, l, e, q⟩ := h
  revert l e
  match ds with
  | [] => intro l e; cases b <;> exact nomatch (show (R.bad : R Val) = R.ok val from e)
  | [x] =>
    intro l e
    obtain ⟨v, rfl, l1⟩ := l.one
    clear l
    cases b <;> cases x <;> try (exact nomatch (show (R.bad : R Val) = R.ok val from e))
    case len.str s1 =>
      obtain rfl := lr_str l1
      have e : (if s1.length ≤ LINE then R.ok (Val.d (.int s1.length)) else R.bad) = R.ok val := e
      split at e
      · rename_i hz
        cases e
        refine call_len pins s σ H _ us Q I r ⟨_, s1.length, rfl, ⟨by rw [sx_len, ← line_eq]; exact hz, by rw [sx_len]⟩, endV sm q rfl rp_int⟩
      · cases e
    case len.lst xs =>
      obtain ⟨p, ws, rfl, hp, r1⟩ := l1
      cases e
      exact call_len pins s σ H _ us Q I r ⟨_, xs.length, rfl, .inl ⟨ws, SqL.of hp, r1.len⟩, endV sm q rfl rp_int⟩
    case len.tup xs =>
      obtain ⟨p, ws, rfl, _, hp, r1⟩ := lr_tup sm l1
      cases e
      exact call_len pins s σ H _ us Q I r ⟨_, xs.length, rfl, .inr ⟨ws, SqT.of hp, r1.len⟩, endV sm q rfl rp_int⟩
    case len.scr ns =>
      obtain ⟨p, rfl, hp⟩ := lr_scr sm l1
      cases e
      exact call_len pins s σ H _ us Q I r ⟨_, ns.length, rfl, .inl ⟨_, hp, by rw [List.length_map]⟩, endV sm q rfl rp_int⟩
    case int.bl k =>
      obtain rfl := lr_bl l1
      cases e
      exact call_int1 pins s σ H _ us Q I r (.inr ⟨k, rfl, endV sm q rfl rp_int⟩)
    case int.int i =>
      obtain rfl := lr_int l1
      cases e
      exact call_int1 pins s σ H _ us Q I r (.inl ⟨i, rfl, endV sm q rfl rp_int⟩)
    case int.str s1 =>
      obtain rfl := lr_str l1
      have e : (if s1.length ≤ 640 then (optR (intOf s1) (fun n => R.ok (Val.d (.int n)))) else R.bad) = R.ok val := e
      split at e
      · rename_i hz
        cases ei : intOf s1 with
        | none => rw [ei] at e; cases e
        | some n =>
          rw [ei] at e
          cases e
          exact call_int_str pins s σ H _ us Q I r ⟨_, n, rfl, ei, by rw [sx_len]; exact hz, endV sm q rfl rp_int⟩
      · cases e
    case str.str s1 =>
      obtain rfl := lr_str l1
      cases e
      exact SkE.call_str_str pins s σ H _ us Q I r ⟨_, rfl, endV sm q rfl rp_str⟩
    case str.int i =>
      obtain rfl := lr_int l1
      have e : (if i.natAbs.log2 < 1920 then R.ok (Val.d (.str (itx i))) else R.bad) = R.ok val := e
      split at e
      · rename_i hz
        cases e
        refine call_str_int pins s σ H _ us Q I r ⟨i, rfl, hz, ?_⟩
        rw [itx_str]
        exact endV sm q rfl rp_str
      · cases e
    case abs.int i =>
      obtain rfl := lr_int l1
      cases e
      exact call_abs pins s σ H _ us Q I r ⟨i, rfl, endV sm q rfl rp_int⟩
    case tuple.lst xs =>
      obtain ⟨p, ws, rfl, hp, r1⟩ := l1
      cases e
      exact call_tuple_of pins s σ H _ us Q I r ⟨p, ws, rfl, .inl ⟨SqL.of hp, endT sm q rfl r1⟩⟩
    case tuple.tup xs =>
      obtain ⟨p, ws, rfl, fp, hp, r1⟩ := lr_tup sm l1
      cases e
      exact call_tuple_of pins s σ H _ us Q I r ⟨p, ws, rfl, .inr ⟨SqT.of hp, endV sm q rfl (rp_tup fp r1)⟩⟩
    case list.lst xs =>
      obtain ⟨p, ws, rfl, hp, r1⟩ := l1
      cases e
      exact call_list_of pins s σ H _ us Q I r ⟨p, ws, rfl, .inl (SqL.of hp), endL sm q rfl r1⟩
    case list.tup xs =>
      obtain ⟨p, ws, rfl, fp, hp, r1⟩ := lr_tup sm l1
      cases e
      exact call_list_of pins s σ H _ us Q I r ⟨p, ws, rfl, .inr (SqT.of hp), endL sm q rfl r1⟩
    case sum.lst xs =>
      obtain ⟨p, ws, rfl, hp, r1⟩ := l1
      have e : (optR (intsOf xs) (fun ns => R.ok (Val.d (.int ns.sum)))) = R.ok val := e
      cases ei : intsOf xs with
      | none => rw [ei] at e; cases e
      | some ns =>
        rw [ei] at e
        cases e
        have := RpL.ints r1 ei
        subst this
        exact cr_sum hc pins s σ H _ us Q I r ⟨p, ns, rfl, SqL.of hp, endV sm q rfl rp_int⟩
    case all.lst xs =>
      obtain ⟨p, ws, rfl, hp, r1⟩ := l1
      have e : (optR (allBl xs) (fun bs => R.ok (Val.d (.bl (bs.all id))))) = R.ok val := e
      cases ei : allBl xs with
      | none => rw [ei] at e; cases e
      | some ns =>
        rw [ei] at e
        cases e
        have := RpL.bls r1 ei
        subst this
        exact cr_all hc pins s σ H _ us Q I r ⟨p, ns, rfl, SqL.of hp, endV sm q rfl rp_bl⟩
    case any.lst xs =>
      obtain ⟨p, ws, rfl, hp, r1⟩ := l1
      have e : (optR (allBl xs) (fun bs => R.ok (Val.d (.bl (bs.any id))))) = R.ok val := e
      cases ei : allBl xs with
      | none => rw [ei] at e; cases e
      | some ns =>
        rw [ei] at e
        cases e
        have := RpL.bls r1 ei
        subst this
        exact cr_any hc pins s σ H _ us Q I r ⟨p, ns, rfl, SqL.of hp, endV sm q rfl rp_bl⟩
  | [x, y] =>
    intro l e
    obtain ⟨v, w, rfl, l1, l2⟩ := l.two
    clear l
    cases b <;> cases x <;> cases y <;> try (exact nomatch (show (R.bad : R Val) = R.ok val from e))
    case min2.int.int i j =>
      obtain rfl := lr_int l1; obtain rfl := lr_int l2
      cases e
      exact call_min2 hc pins s σ H _ us Q I r ⟨i, j, rfl, endV sm q rfl rp_int⟩
    case max2.int.int i j =>
      obtain rfl := lr_int l1; obtain rfl := lr_int l2
      cases e
      exact call_max2 hc pins s σ H _ us Q I r ⟨i, j, rfl, endV sm q rfl rp_int⟩
    case divmod.int.int i j =>
      obtain rfl := lr_int l1; obtain rfl := lr_int l2
      have e : (if 0 < j ∧ j < 1073741824 then R.ok (Val.d (.tup [.int (i / j), .int (i % j)])) else R.bad) = R.ok val := e
      split at e
      · rename_i hz
        cases e
        exact call_divmod pins s σ H _ us Q I r ⟨i, j, rfl, hz, endT sm q rfl (RpL.cons rp_int (RpL.cons rp_int RpL.nil))⟩
      · cases e
  | x :: y :: z :: ds => intro l e; cases b <;> cases x <;> first | exact nomatch (show (R.bad : R Val) = R.ok val from e) | (cases y <;> exact nomatch (show (R.bad : R Val) = R.ok val from e))
theorem ixN_eq (n : Nat) (i : Int) : ixN n i = ixOf n i := by
  unfold ixN ixOf
  first
    | rfl
    | (split <;> split <;> first | rfl | omega | (split <;> first | rfl | omega))
def rSub (K : PySem.W.Frag) : R2 := fun x y H Q => ∃ F d1 d2 z, Same F H ∧ LR K F H d1 x ∧ LR K F H d2 y ∧ subD d1 d2 = .ok z ∧ ∀ v, Rp K F z v → Q v H
theorem at_lst {K : PySem.W.Frag} {F : Hp} {xs : List D} {vs : List V} {i : Int} {z : D} (r : RpL K F xs vs) (e : (optR ((ixOf xs.length i).bind (xs[·]?)) (fun x => R.ok x)) = R.ok z) : ∃ v, atI vs i = some v ∧ Rp K F z v := by
  cases e1 : (ixOf xs.length i).bind (xs[·]?) with
  | none => rw [e1] at e; cases e
  | some x =>
    rw [e1] at e
    cases e
    rw [Option.bind_eq_some_iff] at e1
    obtain ⟨j, e2, e3⟩ := e1
    obtain ⟨v, h1, h2⟩ := r.get e3
    refine ⟨v, ?_, h2⟩
    unfold atI
    rw [ixN_eq, ← r.len, e2]
    exact h1
theorem ix_all : IxR X (rSub X.K) := by
  intro value slice pins s σ H x y v u Q I rx ry h hs
  obtain ⟨F, d1, d2, z, sm, l1, l2, e, q⟩ := h
  cases d1 <;> cases d2 <;> try (exact nomatch (show (R.bad : R D) = R.ok z from e))
  case str.int s1 i =>
    obtain rfl := lr_str l1; obtain rfl := lr_int l2
    have e : (if s1.length ≤ LINE then (optR ((ixOf s1.length i).bind (s1[·]?)) (fun x => R.ok (D.str [x]))) else R.bad) = R.ok z := e
    split at e
    · rename_i hz
      cases e1 : (ixOf s1.length i).bind (s1[·]?) with
      | none => rw [e1] at e; cases e
      | some c =>
        rw [e1] at e
        cases e
        refine ix_str value slice pins s σ H _ _ v u Q I rx ry ⟨_, i, c, rfl, rfl, by rw [sx_len, ← line_eq]; exact hz, ?_, q _ rp_str⟩ hs
        unfold atI
        rw [ixN_eq]
        exact e1
    · cases e
  case lst.int xs i =>
    obtain ⟨p, ws, rfl, hp, r1⟩ := l1
    obtain rfl := lr_int l2
    obtain ⟨w, h1, h2⟩ := at_lst r1 e
    exact ix_list value slice pins s σ H _ _ v u Q I rx ry ⟨p, ws, i, w, rfl, rfl, SqL.of hp, h1, q _ h2⟩ hs
  case tup.int xs i =>
    obtain ⟨p, ws, rfl, _, hp, r1⟩ := lr_tup sm l1
    obtain rfl := lr_int l2
    obtain ⟨w, h1, h2⟩ := at_lst r1 e
    exact ix_tup value slice pins s σ H _ _ v u Q I rx ry ⟨p, ws, i, w, rfl, rfl, SqT.of hp, h1, q _ h2⟩ hs
  case scr.int ns i =>
    obtain ⟨p, rfl, hp⟩ := lr_scr sm l1
    obtain rfl := lr_int l2
    have e : (optR ((ixOf ns.length i).bind (ns[·]?)) (fun x => R.ok (D.int x))) = R.ok z := e
    cases e1 : (ixOf ns.length i).bind (ns[·]?) with
    | none => rw [e1] at e; cases e
    | some k =>
      rw [e1] at e
      cases e
      refine ix_list value slice pins s σ H _ _ v u Q I rx ry ⟨p, _, i, .int k, rfl, rfl, hp, ?_, q _ rp_int⟩ hs
      unfold atI
      rw [ixN_eq, List.length_map]
      rw [Option.bind_eq_some_iff] at e1 ⊢
      obtain ⟨j, e2, e3⟩ := e1
      refine ⟨j, e2, ?_⟩
      rw [List.getElem?_map, e3]
      rfl
def rSlc (K : PySem.W.Frag) : V → Option Int → Option Int → Hp → VK → Prop := fun x lo hi H Q => ∃ F d val, Same F H ∧ LR K F H d x ∧ slcD d lo hi = .ok val ∧ ∀ F' H' v, Grow F F' H H' → VR K F' H H' val v → Q v H'
theorem rpl_cut {K : PySem.W.Frag} {F : Hp} {xs : List D} {vs : List V} (r : RpL K F xs vs) (lo hi : Option Int) : RpL K F (cut xs lo hi) (cutV vs lo hi) := by
  unfold cut cutV
  rw [r.len]
  exact (r.drop _).take _
theorem cut_str (s : Tx) (lo hi : Option Int) : cutS ⟨s.toArray⟩ lo hi = ⟨(cut s lo hi).toArray⟩ := by
  rw [← sliceText_cut]
  refine TL.ext_tl ?_
  rw [sliceText_cut]
  unfold cutS cut
  first
    | rfl
    | (simp [TL.tl, Str.length])
theorem sl_all : SlR X (rSlc X.K) := by
  intro pins s σ H x v vl vu lo hi sl Q I rx hs pl pu h
  obtain ⟨F, d, val, sm, l, e, q⟩ := h
  cases d <;> try (exact nomatch (show (R.bad : R Val) = R.ok val from e))
  case lst xs =>
    obtain ⟨p, ws, rfl, hp, r1⟩ := l
    cases e
    exact sl_list pins s σ H _ v vl vu lo hi sl Q I rx hs pl pu ⟨p, ws, rfl, SqL.of hp, endL sm q rfl (rpl_cut r1 lo hi)⟩
  case str s1 =>
    obtain rfl := lr_str l
    have e : (if s1.length ≤ LINE then R.ok (Val.d (.str (cut s1 lo hi))) else R.bad) = R.ok val := e
    split at e
    · rename_i hz
      cases e
      refine sl_str pins s σ H _ v vl vu lo hi sl Q I rx hs pl pu ⟨_, rfl, by rw [sx_len, ← line_eq]; exact hz, ?_⟩
      rw [cut_str]
      exact endV sm q rfl rp_str
    · cases e
  case tup xs =>
    obtain ⟨p, ws, rfl, fp, hp, r1⟩ := lr_tup sm l
    have e : (if HT.sIx xs.length 0 lo = 0 ∧ HT.sIx xs.length xs.length hi = xs.length then R.bad else R.ok (Val.d (.tup (cut xs lo hi)))) = R.ok val := e
    split at e
    · cases e
    · rename_i hz
      cases e
      refine sl_tup pins s σ H _ v vl vu lo hi sl Q I rx hs pl pu ⟨p, ws, rfl, SqT.of hp, by rw [← r1.len]; exact hz, endT sm q rfl (rpl_cut r1 lo hi)⟩
  case scr ns =>
    obtain ⟨p, rfl, hp⟩ := lr_scr sm l
    cases e
    refine sl_list pins s σ H _ v vl vu lo hi sl Q I rx hs pl pu ⟨p, _, rfl, hp, endL sm q rfl ?_⟩
    have e2 : cutV (ns.map V.int) lo hi = (cut ns lo hi).map V.int := by
      unfold cutV cut
      rw [List.length_map, List.map_take, List.map_drop]
    rw [e2]
    exact rpl_ints _
end
def rM1 (K : PySem.W.Frag) (m : M1) : V → List V → Hp → VK → Prop := fun x vs H Q => ∃ F s d v val, x = .str ⟨List.toArray s⟩ ∧ vs = [v] ∧ Same F H ∧ LR K F H d v ∧ m1D m s d = .ok val ∧ ∀ F' H' w, Grow F F' H H' → VR K F' H H' val w → Q w H'
theorem RpL.strs {K : PySem.W.Frag} {F : Hp} : ∀ {xs : List D} {vs : List V} {ys : List Tx}, RpL K F xs vs → strsOf xs = some ys → vs = (ys.map fun s => (⟨List.toArray s⟩ : Str)).map V.str
  | [], _, ns, h, e => by
    rw [RpL] at h
    rw [strsOf] at e
    cases e
    rw [h]; rfl
  | x :: xs, _, ns, h, e => by
    rw [RpL] at h
    obtain ⟨v, r, rfl, h1, h2⟩ := h
    cases x with
    | str i =>
      rw [strsOf] at e
      cases q : strsOf xs with
      | none => rw [q] at e; cases e
      | some ms =>
        rw [q] at e
        cases e
        rw [Rp] at h1
        rw [h1, RpL.strs h2 q]; rfl
    | _ => simp [strsOf] at e
theorem rpL_strs {K : PySem.W.Frag} {F : Hp} : ∀ ys : List Tx, RpL K F (ys.map D.str) ((ys.map fun s => (⟨List.toArray s⟩ : Str)).map V.str)
  | [] => RpL.nil
  | y :: ys => RpL.cons rp_str (rpL_strs ys)
theorem mt_m1split {X : Cx} : MtR X "str.split" (rM1 X.K .split) := by
  intro pins s σ H x xs v us Q I rx rs h
  obtain ⟨F, a, d, y, val, rfl, rfl, sm, l, e, q⟩ := h
  cases d with
  | str b =>
    obtain rfl := lr_str l
    have e : (if b ≠ [] ∧ b.all (· < 256) = true ∧ a.length + 2 ≤ LINE then R.ok (Val.fr ((TL.spl b 0 [] a).map .str)) else .bad) = .ok val := e
    by_cases hz : b ≠ [] ∧ b.all (· < 256) = true ∧ a.length + 2 ≤ LINE
    · rw [if_pos hz] at e
      cases e
      refine mt_split pins s σ H _ _ v us Q I rx rs ⟨_, _, rfl, rfl, ?_, ?_, ?_⟩
      · have : (⟨List.toArray b⟩ : Str).length = b.length := SX.S_len b
        rw [this]
        cases b with
        | nil => exact absurd rfl hz.1
        | cons _ _ => rfl
      · have : (⟨List.toArray a⟩ : Str).length = a.length := SX.S_len a
        rw [this, ← line_eq]
        exact hz.2.2
      · rw [show Txt.split ⟨List.toArray a⟩ ⟨List.toArray b⟩ = (TL.spl b 0 [] a).map SX.S from SX.split_S hz.1 hz.2.1]
        intro p hp
        exact q F _ _ (Grow.newH sm hp) ⟨p, _, rfl, hp, upd_same, sm.free hp, rpL_strs _⟩
    · rw [if_neg hz] at e
      cases e
  | _ => cases e
theorem mt_m1join {X : Cx} : MtR X "str.join" (rM1 X.K .join) := by
  intro pins s σ H x xs v us Q I rx rs h
  obtain ⟨F, a, d, y, val, rfl, rfl, sm, l, e, q⟩ := h
  cases d with
  | lst ds =>
    obtain ⟨p, vs, rfl, hp, r⟩ := l
    have e : optR (strsOf ds) (fun ys => if (ys.map List.length).sum + ys.length * a.length ≤ LINE then R.ok (Val.d (.str (TL.joinL a ys))) else .bad) = .ok val := e
    cases e1 : strsOf ds with
    | none => rw [e1] at e; cases e
    | some ys =>
      rw [e1] at e
      have e : (if (ys.map List.length).sum + ys.length * a.length ≤ LINE then R.ok (Val.d (.str (TL.joinL a ys))) else .bad) = .ok val := e
      by_cases hz : (ys.map List.length).sum + ys.length * a.length ≤ LINE
      · rw [if_pos hz] at e
        cases e
        refine mt_join pins s σ H _ _ v us Q I rx rs ⟨_, p, ys.map fun s => (⟨List.toArray s⟩ : Str), rfl, rfl, .inl ?_, ?_, ?_⟩
        · rw [← r.strs e1]
          exact SqL.of hp
        · have e2 : ((ys.map fun s => (⟨List.toArray s⟩ : Str)).map (·.length)) = ys.map List.length := SX.lens ys
          have e3 : (⟨List.toArray a⟩ : Str).length = a.length := SX.S_len a
          rw [e2, e3, List.length_map]
          exact hz
        · rw [show Txt.join ⟨List.toArray a⟩ (ys.map fun s => (⟨List.toArray s⟩ : Str)) = SX.S (TL.joinL a ys) from SX.join_S a ys]
          exact q F H _ (Grow.refl sm) (show Rp X.K F (.str _) _ from rp_str)
      · rw [if_neg hz] at e
        cases e
  | _ => cases e
end Fv
end
section
set_option maxHeartbeats 1000000
namespace Fv
open PySem PySem.Spec PyProof.Rows L2

inductive Gc where
  | int (i : Int) | str (s : Str)
structure Ck where
  N : List Str
  sc : Scope
  ts : Scope
  /-- the module's constants -/
  G : List (Str × Gc)
  /-- built-in names that the module does not bind -/
  fr : List Str
  /-- defs that may be called: by so many arguments -/
  fn : List (String × Nat)
  /-- fields that may be asked for, by classes -/
  at_ : List (String × String)
  /-- methods that may be called: by so many arguments -/
  me : List (String × String × Nat)
  /-- classes of which instances may be made: by so many arguments -/
  mks : List (String × Nat)
  /-- bases whose __init__ may be called: by so many arguments behind self -/
  bas : List (String × Nat)
  /-- own exception classes that may be met; names that isinstance may ask of such; those that may be raised: with so many arguments -/
  xs : List String
  xn : List String
  xr : List (String × Nat)
def cstB : D → Const → Bool
  | .non, .none => true
  | .bl a, .bool b => a == b
  | .int i, .int j => decide (i = j)
  | .str s, .str z => decide (z = ⟨s.toArray⟩)
  | _, _ => false
def gcB : D → Gc → Bool
  | .int i, .int j => decide (i = j)
  | .str s, .str z => decide (z = ⟨s.toArray⟩)
  | _, _ => false
def visB (sc : Scope) (x : Str) : Bool := match sc.names.lookup x with
  | some .local => true
  | some .cell => true
  | some .free => true
  | _ => false
def locB (sc : Scope) (x : Str) : Bool := match sc.names.lookup x with
  | some .local => true
  | some .cell => true
  | _ => false
def gloB (sc : Scope) (x : Str) : Bool := decide (sc.names.lookup x = some .globalImplicit) && !(x == ("__debug__" : Str)) && !(x == ("__name__" : Str))
/-- the target's slots are the block's own -/
def tgIn (vs : List Nat) : Tg → Bool
  | .one i => vs.contains i
  | .tup is => is.all fun i => vs.contains i
def isStar : Expr → Bool
  | .Starred _ _ => true
  | _ => false
def embT (c : Ck) : Tg → Expr → Bool
  | .one i, e => match e with
    | .Name x _ => decide (c.N[i]? = some x) && locB c.ts x
    | _ => false
  | .tup is, e => match e with
    | .Tuple es _ _ => decide (es.length = is.length) && (is.zip es).all fun p => match p.2 with
      | .Name x _ => decide (c.N[p.1]? = some x) && locB c.ts x
      | _ => false
    | _ => false
def M1.name : M1 → Str
  | .split => "split"
  | .join => "join"
def noCall : Expr → Bool
  | .Name _ _ => true
  | .Attribute _ _ _ => true
  | .Subscript _ _ _ => true
  | _ => false
/-- a name, a constant -/
def plainO : Expr → Bool
  | .Name _ _ => true
  | .Constant _ _ _ => true
  | .Subscript _ _ _ => true
  | .Call _ (_ :: _) _ _ => true
  | _ => false
/-- enumerate's pairs go to a tuple -/
def tgOk : It → Expr → Bool
  | .enum _, t => match t with
    | .Tuple _ _ _ => true
    | _ => false
  | _, _ => true
mutual
def emb (c : Ck) : Ex → Expr → Bool
  | .var i, e => match e with
    | .Name x _ => decide (c.N[i]? = some x) && (visB c.sc x && (!(x == ("__debug__" : Str)) && !(x == ("__classdict__" : Str))))
    | _ => false
  | .cst d, e => match e with
    | .Constant k _ _ => cstB d k
    | .Name x _ => gloB c.sc x && (match c.G.lookup x with | some g => gcB d g | none => false)
    | _ => false
  | .bin o a b, e => match e with
    | .BinOp l op r _ => decide (op = o.op) && (emb c a l && emb c b r)
    | _ => false
  | .neg a, e => match e with
    | .UnaryOp op l _ => decide (op = .USub) && emb c a l
    | _ => false
  | .nt a, e => match e with
    | .UnaryOp op l _ => decide (op = .Not) && emb c a l
    | _ => false
  | .cmp o a b, e => match e with
    | .Compare l [op] [r] _ => decide (op = o.op) && (emb c a l && (emb c b r && !behindInMarks op r))
    | _ => false
  | .chn o p a b d, e => match e with
    | .Compare l [op, op'] [r, r'] _ => decide (op = o.op) && (decide (op' = p.op) && (emb c a l && (emb c b r && (emb c d r' && !lastMarks [op, op'] [r, r']))))
    | _ => false
  | .and a b, e => match e with
    | .BoolOp op (l :: r :: rest) pos => decide (op = .And) && (emb c a l && (match rest with | [] => emb c b r | _ => emb c b (.BoolOp .And (r :: rest) pos)))
    | _ => false
  | .or a b, e => match e with
    | .BoolOp op (l :: r :: rest) pos => decide (op = .Or) && (emb c a l && (match rest with | [] => emb c b r | _ => emb c b (.BoolOp .Or (r :: rest) pos)))
    | _ => false
  | .ite _ _ _, _ => false
  | .tup es, e => match e with
    | .Tuple l _ _ => embs c es l
    | _ => false
  | .lst es, e => match e with
    | .List l _ => embs c es l
    | _ => false
  | .sub a i, e => match e with
    | .Subscript l k _ => emb c a l && emb c i k
    | _ => false
  | .slc a lo hi, e => match e with
    | .Subscript l (.Slice (some x) (some y) none _) _ => emb c a l && (emb c lo x && emb c hi y)
    | _ => false
  | .slcL a lo, e => match e with
    | .Subscript l (.Slice (some x) none none _) _ => emb c a l && emb c lo x
    | _ => false
  | .slcH a hi, e => match e with
    | .Subscript l (.Slice none (some y) none _) _ => emb c a l && emb c hi y
    | _ => false
  | .call f es, e => match e with
    | .Call (.Name x _) l [] _ => decide (x = Str.ofString f) && (gloB c.sc x && (c.fn.contains (f, l.length) && embs c es l))
    | _ => false
  | .bi b es, e => match e with
    | .Call (.Name x _) l [] _ => decide (x = b.name) && (gloB c.sc x && (c.fr.contains x && (!l.isEmpty && embs c es l)))
    | _ => false
  | .isa a t, e => match e with
    | .Call (.Name x _) [l, .Name y _] [] _ => decide (x = ("isinstance" : Str)) && (decide (y = Str.ofString t) && (gloB c.sc x && (gloB c.sc y && (c.fr.contains x && (c.fr.contains y && (decide (t ∈ isaT) && emb c a l))))))
    | _ => false
  | .lc own tg it d e, ex => match ex with
    | .ListComp l [⟨t, i, ifs, 0⟩] scope _ => blkC c.N c.sc scope own && (tgIn (own.map (·.2)) tg && ((embI c it i && tgOk it t) && (embT { c with sc := relS scope c.sc, ts := scope } tg t && (emb { c with sc := relS scope c.sc, ts := scope } e l && (match ifs with
      | [] => (match d with | .cst (.bl true) => true | _ => false)
      | [z] => emb { c with sc := relS scope c.sc, ts := scope } d z
      | _ => false)))))
    | _ => false
  | .m1 m a b, e => match e with
    | .Call (.Attribute o n apos) [l] [] cpos => decide (n = m.name) && (plainO o && ((apos.endLine == cpos.line) && (!isStar l && (emb c a o && emb c b l))))
    | _ => false
  | .rev a, e => match e with
    | .Subscript l (.Slice none none (some (.UnaryOp .USub (.Constant (.int 1) _ _) _)) _) _ => emb c a l
    | _ => false
  | .lrg1 b, e => match e with
    | .Call (.Name x _) [.Call (.Name y _) [l] [] q] [] _ => decide (x = ("list" : Str)) && (decide (y = ("range" : Str)) && (gloB c.sc x && (gloB c.sc y && (c.fr.contains x && (c.fr.contains y && (!isStar l && emb c b l))))))
    | _ => false
  | .lrg a b, e => match e with
    | .Call (.Name x _) [.Call (.Name y _) [l, r] [] q] [] _ => decide (x = ("list" : Str)) && (decide (y = ("range" : Str)) && (gloB c.sc x && (gloB c.sc y && (c.fr.contains x && (c.fr.contains y && (!isStar l && (!isStar r && (emb c a l && emb c b r))))))))
    | _ => false
  | .cnt a b, e => match e with
    | .Call (.Attribute o n apos) [l] [] cpos => decide (n = ("count" : Str)) && (plainO o && ((apos.endLine == cpos.line) && (!isStar l && (emb c a o && emb c b l))))
    | _ => false
  | .fld cs a n, e => match e with
    | .Attribute o f _ => decide (f = Str.ofString n) && (noCall o && ((cs.all fun z => c.at_.contains (z, n)) && emb c a o))
    | _ => false
  | .mth cs a m es, e => match e with
    | .Call (.Attribute o f apos) l [] pos => decide (f = Str.ofString m) && ((noCall o && ((apos.endLine == pos.line) && decide (l.length < 30))) && (!cs.isEmpty && ((cs.all fun z => c.me.contains (z, m, l.length)) && (emb c a o && embs c es l))))
    | _ => false
  | .isx cs a t, e => match e with
    | .Call (.Name x _) [l, .Name y _] [] _ => decide (x = ("isinstance" : Str)) && (decide (y = Str.ofString t) && (gloB c.sc x && (gloB c.sc y && (c.fr.contains x && (c.xn.contains t && ((!cs.isEmpty && cs.all fun z => c.xs.contains z) && emb c a l))))))
    | _ => false
  | .xfl cs a n, e => match e with
    | .Attribute o f _ => decide (f = Str.ofString n) && (noCall o && ((!cs.isEmpty && cs.all fun z => c.xs.contains z) && emb c a o))
    | _ => false
  | .mk z es, e => match e with
    | .Call (.Name x _) l [] _ => decide (x = Str.ofString z) && (gloB c.sc x && (c.mks.contains (z, l.length) && (!l.isEmpty && embs c es l)))
    | _ => false
def embs (c : Ck) : Exs → List Expr → Bool
  | .nil, l => match l with
    | [] => true
    | _ => false
  | .cons e r, l => match l with
    | x :: l => emb c e x && (!isStar x && embs c r l)
    | _ => false
def embI (c : Ck) : It → Expr → Bool
  | .seq a, e => emb c a e && (match e with | .Set _ _ _ => false | _ => true)
  | .enum a, e => match e with
    | .Call (.Name x _) [l] [] _ => decide (x = ("enumerate" : Str)) && (gloB c.sc x && (c.fr.contains x && (!isStar l && emb c a l)))
    | _ => false
  | .rng a, e => match e with
    | .Call (.Name x _) [l] [] _ => decide (x = ("range" : Str)) && (gloB c.sc x && (c.fr.contains x && (!isStar l && emb c a l)))
    | _ => false
  | .revs a, e => match e with
    | .Call (.Name x _) [l] [] _ => decide (x = ("reversed" : Str)) && (gloB c.sc x && (c.fr.contains x && (!isStar l && emb c a l)))
    | _ => false
  | .rng3 a b d, e => match e with
    | .Call (.Name x _) [l, r, s] [] _ => decide (x = ("range" : Str)) && (gloB c.sc x && (c.fr.contains x && (!isStar l && (!isStar r && (!isStar s && (emb c a l && (emb c b r && emb c d s)))))))
    | _ => false
  | .rng2 a b, e => match e with
    | .Call (.Name x _) [l, r] [] _ => decide (x = ("range" : Str)) && (gloB c.sc x && (c.fr.contains x && (!isStar l && (!isStar r && (emb c a l && emb c b r)))))
    | _ => false
end

/-- what is raised: by the class's name and the fields -/
abbrev EIs := String → List D → Value → Option Addr → Hp → Prop
structure Gv where
  Γ : Fns
  ei : EIs
def RH {α : Type} (r : R α) (ok : α → Prop) (er : String → List D → Prop) : Prop := match r with
  | .ok a => ok a
  | .er c fs => er c fs
  | .bad => False
theorem RH.bind {α β : Type} {r : R α} {f : α → R β} {ok : β → Prop} {er : String → List D → Prop} (h : RH (r >>= f) ok er) : RH r (fun a => RH (f a) ok er) er := by
  cases r with
  | ok a => exact h
  | er c fs => exact h
  | bad => exact h
theorem RH.imp {α : Type} {r : R α} {ok ok' : α → Prop} {er er' : String → List D → Prop} (h : RH r ok er) (h1 : ∀ a, r = .ok a → ok a → ok' a) (h2 : ∀ c fs, er c fs → er' c fs) : RH r ok' er' := by
  cases r with
  | ok a => exact h1 a rfl h
  | er c fs => exact h2 c fs h
  | bad => exact h.elim
/-- what is wanted where it is raised -/
def ErW (g : Gv) (E : XK) (H : Hp) : String → List D → Prop := fun c fs => ∀ cls d H', Same H H' → (∀ dd, d = some dd → H dd = none) → g.ei c fs cls d H' → E cls d H'
theorem ErW.same {g : Gv} {E : XK} {H H1 : Hp} (s : Same H H1) {c : String} {fs : List D} (h : ErW g E H c fs) : ErW g E H1 c fs := fun cls d H' s' hn hi => h cls d H' (s.trans s') (fun dd e => by
  cases q : H dd with
  | none => rfl
  | some o =>
    have z := s dd o q
    rw [hn dd e] at z
    cases z) hi
/-- an exception in the air: its class, its fields, whole numbers and texts -/
def eiX (K : PySem.W.Frag) (xs : List String) : EIs := fun c fs cls d H' => c ∈ xs ∧ cls = .ref (He.ga K (Str.ofString c)) ∧ ∃ dd fsV vs, d = some dd ∧ H' dd = some (.xd fsV) ∧ fs.all D.flat = true ∧ RpL K H' fs vs ∧ (FvX.xNs c).length = fs.length ∧ ∀ n : Str, fsV.lookup n = (((FvX.xNs c).map Str.ofString).zip vs).lookup n
def tV (K : PySem.W.Frag) (g : Gv) (E : XK) (x : Ex) : TE := fun σ H Q => ∃ B F S, StOk K B F H σ S ∧ RH (ev g.Γ x S) (fun val => ∀ F' H' v, Grow F F' H H' → VR K F' H H' val v → Q v H') (ErW g E H)
def tL (K : PySem.W.Frag) (g : Gv) (E : XK) (x : Ex) : TE := fun σ H Q => ∃ B F S, StOk K B F H σ S ∧ RH (evL g.Γ x S) (fun d => ∀ F' H' v, Grow F F' H H' → LR K F' H' d v → Q v H') (ErW g E H)
def tT (K : PySem.W.Frag) (g : Gv) (E : XK) (x : Ex) : TT := fun σ H Q => ∃ B F S, StOk K B F H σ S ∧ RH (evT g.Γ x S) (fun k => ∀ F' H', Grow F F' H H' → Q k H') (ErW g E H)
/-- an argument list: each is read; kept too where none is a list of one's own -/
def tAs (K : PySem.W.Frag) (g : Gv) (E : XK) (es : Exs) : TA := fun σ H Q => ∃ B F S, StOk K B F H σ S ∧ RH (evsL g.Γ es S) (fun ds => ∀ F' H' vs, Grow F F' H H' → LRs K F' H' ds vs → (anyOwn es S = false → RpL K F' ds vs) → Q vs H') (ErW g E H)
/-- a display's items: all are kept -/
def tDs (K : PySem.W.Frag) (g : Gv) (E : XK) (es : Exs) : TA := fun σ H Q => ∃ B F S, StOk K B F H σ S ∧ RH (evs g.Γ es S) (fun ds => ∀ F' H' vs, Grow F F' H H' → RpL K F' ds vs → Q vs H') (ErW g E H)

theorem PE.weak {X : Cx} {e : Expr} {t t' : TE} (h : PE X e t) (w : ∀ σ H Q, t' σ H Q → t σ H Q) : PE X e t' := ⟨fun pins s σ H Q I q => h.run pins s σ H Q I (w σ H Q q)⟩
theorem PT.weak {X : Cx} {e : Expr} {t t' : TT} (h : PT X e t) (w : ∀ σ H Q, t' σ H Q → t σ H Q) : PT X e t' := ⟨fun pins s σ H Q I q => h.run pins s σ H Q I (w σ H Q q)⟩
theorem PW.weak {X : Cx} {e : Expr} {t t' : TT} (h : PW X e t) (w : ∀ σ H Q, t' σ H Q → t σ H Q) : PW X e t' := ⟨fun wh pins s σ H Q I q => h.run wh pins s σ H Q I (w σ H Q q)⟩
theorem PA.weak {X : Cx} {e : List Expr} {t t' : TA} (h : PA X e t) (w : ∀ σ H Q, t' σ H Q → t σ H Q) : PA X e t' := ⟨fun p pins s σ H Q I q => h.run p pins s σ H Q I (w σ H Q q)⟩
theorem PI.weak {X : Cx} {tg e : Expr} {t t' : TI} (h : PI X tg e t) (w : ∀ σ H Q, t' σ H Q → t σ H Q) : PI X tg e t' := ⟨fun pins s σ H Q I q => h.run pins s σ H Q I (w σ H Q q)⟩

/-- what a def of the text is worth -/
def spF (K : PySem.W.Frag) (g : Gv) (f : String) : Sp := fun vs H Q E => ∃ F ds, Same F H ∧ RpL K F ds vs ∧ RH (g.Γ f ds) (fun val => ∀ F' H' v, Grow F F' H H' → VR K F' H H' val v → Q v H') (ErW g E H)
structure FnAt (X : Cx) (g : Gv) (f : String) (n : Nat) : Prop where
  ex : ∃ (a : Addr) (fd : FuncData) (ps : List Str) (k : Nat) (dvs : List V) (ds : List Value) (sp : Sp), X.mg (Str.ofString f) = some (.ref a) ∧ PySem.W.keepIn X.K (.ref a) = true ∧ Room k X.A ∧ Binds X.K fd ps ds ∧ Vals dvs ds ∧
    FnOk X.prog X.w X.K X.mg X.base (L2.CX X.prog X.w) k a fd ps sp ∧ ∀ vs H Q E, vs.length = n → spF X.K g f vs H Q E → sp (vs ++ dvs) H Q E
/-- the instance at p, its fields so far -/
def OI (K : PySem.W.Frag) (F H : Hp) (p : Addr) (x : D) : Prop := match x with
  | .ins c ns xs => ∃ dx fsV vs, H p = some (.ins (He.ga K (Str.ofString c)) dx fsV) ∧ RpL K F xs vs ∧ ns.length = xs.length ∧ fsV.length ≤ ns.length ∧ ∀ n : Str, fsV.lookup n = ((ns.map Str.ofString).zip vs).lookup n
  | _ => False
def hid (p : Addr) (H : Hp) : Hp := fun a => if a = p then none else H a
/-- what an __init__ is worth -/
def spI (K : PySem.W.Frag) (g : Gv) (b : String) : Sp := fun vs H Q E => ∃ F p ws x ds, vs = .ref p :: ws ∧ OI K F H p x ∧ F p = none ∧ Same F H ∧ RpL K F ds ws ∧
  RH (g.Γ (b ++ ".__init__") (x :: ds)) (fun val => ∀ y F' H', val = .d y → Grow F F' (hid p H) (hid p H') → Same F' H' → OI K F' H' p y → Q .non H') fun _ _ => False
structure MkAt (X : Cx) (g : Gv) (c : String) (n : Nat) : Prop where
  ex : ∃ (f : Addr) (fd : FuncData) (ps : List Str) (k : Nat) (dvs : List V) (ds : List Value) (sp : Sp), L2.Mk X.K (He.ga X.K (Str.ofString c)) f ∧ X.mg (Str.ofString c) = some (.ref (He.ga X.K (Str.ofString c))) ∧ Room (k + 1) X.A ∧ Binds X.K fd ps ds ∧ Vals dvs ds ∧
    FnOk X.prog X.w X.K X.mg X.base (L2.CX X.prog X.w) k f fd ps sp ∧ ∀ vs H Q E, vs.length = n + 1 → spI X.K g c vs H Q E → sp (vs ++ dvs) H Q E
structure MetAt (X : Cx) (g : Gv) (c m : String) (n : Nat) : Prop where
  ex : ∃ (f : Addr) (fd : FuncData) (ps : List Str) (k : Nat) (dvs : List V) (ds : List Value) (sp : Sp), Cls X.K (He.ga X.K (Str.ofString c)) ∧ Meth X.K (He.ga X.K (Str.ofString c)) (Str.ofString m) f ∧ Room k X.A ∧ Binds X.K fd ps ds ∧ Vals dvs ds ∧
    FnOk X.prog X.w X.K X.mg X.base (L2.CX X.prog X.w) k f fd ps sp ∧ ∀ vs H Q E, vs.length = n + 1 → spF X.K g (c ++ "." ++ m) vs H Q E → sp (vs ++ dvs) H Q E
/-- what an __init__ of an exception is worth -/
def spX (K : PySem.W.Frag) : List String → Sp
  | [f] => FvX.spX1 K (Str.ofString f)
  | [f, f2] => FvX.spX2 K (Str.ofString f) (Str.ofString f2)
  | _ => fun _ _ _ _ => False
/-- an exception class that may be raised -/
structure RsAt (X : Cx) (z : String) (n : Nat) : Prop where
  ex : ∃ (fI : Addr) (fd : FuncData) (ps : List Str) (k : Nat), PySem.W.findIn X.K (.ref (He.ga X.K (Str.ofString z))) "__init__" = some (some (.ref fI)) ∧ PySem.W.typeIn X.K (.ref fI) = some (.type "function") ∧ Room (k + 1) X.A ∧ Binds X.K fd ps [] ∧
    FnOk X.prog X.w X.K X.mg X.base (L2.CX X.prog X.w) k fI fd ps (spX X.K (FvX.xNs z)) ∧ n = (FvX.xNs z).length ∧ ((∃ f, FvX.xNs z = [f]) ∨ ∃ f f2, FvX.xNs z = [f, f2] ∧ Str.ofString f ≠ Str.ofString f2)
structure XOk (X : Cx) (c : Ck) (g : Gv) (E : XK) : Prop where
  n : X.N = c.N
  nd : X.N.Nodup
  sc : X.env.scope = c.sc
  calm : X.calm = true
  hu : X.A.units + 64 < cLine
  ts : ∀ x, L2.Loc c.ts x → L2.Loc X.env.scope x ∧ (X.fn x = true ∨ X.env.scope.names.lookup x = some .local)
  con : ∀ x v, c.G.lookup x = some v → ∃ u, X.mg x = some u ∧ (match v with | .int i => RelV (.int i) u | .str s => RelV (.str s) u)
  fr : ∀ x, c.fr.contains x = true → X.mg x = none
  fn : ∀ f n, c.fn.contains (f, n) = true → FnAt X g f n
  ps : Passes (L2.CX X.prog X.w) X E
  at_ : ∀ z n, c.at_.contains (z, n) = true → Cls X.K (He.ga X.K (Str.ofString z)) ∧ NoAttr X.K (He.ga X.K (Str.ofString z)) (Str.ofString n)
  me : ∀ z m n, c.me.contains (z, m, n) = true → MetAt X g z m n
  mks : ∀ z n, c.mks.contains (z, n) = true → MkAt X g z n
  xb : c.xs ≠ [] → FvX.XB X.K X.mg c.xs c.xn
  xr : ∀ z n, c.xr.contains (z, n) = true → RsAt X z n
  ei : c.xs ≠ [] → g.ei = eiX X.K c.xs
section
variable {X : Cx} {c : Ck} {g : Gv} {E : XK}
theorem vis_of {sc : Scope} {x : Str} (h : visB sc x = true) : Vis sc x := by
  unfold visB at h
  unfold Vis
  split at h <;> first | (rename_i e; simp [e]; done) | cases h
theorem loc_of {sc : Scope} {x : Str} (h : locB sc x = true) : L2.Loc sc x := by
  unfold locB at h
  unfold L2.Loc
  split at h <;> first | (rename_i e; simp [e]; done) | cases h
theorem glo_of (hx : XOk X c g E) {x : Str} (h : gloB c.sc x = true) : Gl X x ∧ (x == ("__debug__" : Str)) = false ∧ x ≠ "__name__" := by
  unfold gloB at h
  rw [Bool.and_eq_true, Bool.and_eq_true] at h
  obtain ⟨⟨h1, h2⟩, h3⟩ := h
  refine ⟨?_, by simpa using h2, fun z => ?_⟩
  · show X.env.scope.names.lookup x = _
    rw [hx.sc]
    exact of_decide_eq_true h1
  · rw [z] at h3
    simp at h3
theorem star_of {e : Expr} {es : List Expr} {env : Env} (h : isStar e = false) : starEach (e :: es) env = (false, eval e env) :: starEach es env := by
  cases e <;> first | rfl | (exact absurd (show true = false from h) (by decide))
theorem plain_back {e : Expr} {pos : Pos} : ∀ {es : List Expr} {env : Env}, (es.all fun e => !isStar e) = true → (backTo pos (starEach es env)).any (·.1) = false
  | [], _, _ => rfl
  | e :: es, env, h => by
    rw [List.all_cons, Bool.and_eq_true] at h
    have h1 : isStar e = false := by simpa using h.1
    have ih := plain_back (e := e) (pos := pos) (env := env) h.2
    rw [star_of h1]
    show (backTo pos ((false, eval e env) :: starEach es env)).any (·.1) = false
    simpa [backTo] using ih
theorem embs_stars {c : Ck} : ∀ {es : Exs} {l : List Expr}, embs c es l = true → (l.all fun e => !isStar e) = true
  | .nil, l, h => by
    cases l with
    | nil => rfl
    | cons _ _ => exact absurd (show false = true from h) Bool.false_ne_true
  | .cons e r, l, h => by
    cases l with
    | nil => exact absurd (show false = true from h) Bool.false_ne_true
    | cons x l =>
      rw [embs] at h
      simp only [Bool.and_eq_true] at h
      rw [List.all_cons, h.2.1, embs_stars h.2.2]
      rfl

theorem ok_ne {α : Type} {a : α} {c : String} {fs : List D} : (R.ok a : R α) ≠ .er c fs := fun z => nomatch z
theorem bad_ne {α : Type} {c : String} {fs : List D} : (R.bad : R α) ≠ .er c fs := fun z => nomatch z
theorem ite_er {α : Type} {p : Prop} [Decidable p] {r : R α} {c : String} {fs : List D} (h : r ≠ .er c fs) : (if p then r else .bad) ≠ .er c fs := by
  by_cases hp : p
  · rw [if_pos hp]; exact h
  · rw [if_neg hp]; exact bad_ne
theorem mat_er {α β : Type} {o : Option α} {f : α → R β} {c : String} {fs : List D} (h : ∀ a, f a ≠ .er c fs) : optR o f ≠ .er c fs := by
  cases o with
  | some x => exact h x
  | none => exact bad_ne
theorem truth_er (d : D) (c : String) (fs : List D) : d.truth ≠ .er c fs := by
  cases d <;> first | exact ok_ne | exact bad_ne | exact ite_er ok_ne
theorem binD_er (o : BOp) (a b : D) (c : String) (fs : List D) : binD o a b ≠ .er c fs := by
  cases o <;> cases a <;> cases b <;> first | exact ok_ne | exact bad_ne | exact ite_er ok_ne
theorem eqD_er (a b : D) (c : String) (fs : List D) : eqD a b ≠ .er c fs := by
  cases a <;> cases b <;> first | exact ok_ne | exact bad_ne | exact ite_er ok_ne
theorem ltTup_er (a b : List D) (c : String) (fs : List D) : ltTup a b ≠ .er c fs := by
  unfold ltTup
  split
  · exact ok_ne
  · exact bad_ne
theorem cmpD_er (o : COp) (a b : D) (c : String) (fs : List D) : cmpD o a b ≠ .er c fs := by
  cases o with
  | eq => exact eqD_er a b c fs
  | ne =>
    show (eqD a b >>= fun c => pure (!c)) ≠ _
    cases h : eqD a b with
    | ok k => exact ok_ne
    | er c' fs' => exact absurd h (eqD_er a b c' fs')
    | bad => exact bad_ne
  | lt => cases a <;> cases b <;> first | exact ok_ne | exact bad_ne | exact ltTup_er _ _ c fs
  | _ => cases a <;> cases b <;> first | exact ok_ne | exact bad_ne | exact ite_er ok_ne
theorem subD_er (a b : D) (c : String) (fs : List D) : subD a b ≠ .er c fs := by
  cases a <;> cases b <;> first | exact bad_ne | exact mat_er (fun _ => ok_ne) | exact ite_er (mat_er (fun _ => ok_ne))
theorem slcD_er (a : D) (lo hi : Option Int) (c : String) (fs : List D) : slcD a lo hi ≠ .er c fs := by
  cases a with
  | lst xs => exact ok_ne
  | scr ns => exact ok_ne
  | str s => exact ite_er ok_ne
  | tup xs =>
    show (if _ then R.bad else R.ok _) ≠ _
    split
    · exact bad_ne
    · exact ok_ne
  | _ => exact bad_ne
theorem isaD_er (a : D) (t : String) (c : String) (fs : List D) : isaD a t ≠ .er c fs := by
  unfold isaD
  split
  · exact ite_er ok_ne
  · exact bad_ne
theorem biD_er (b : Bi) (ds : List D) (c : String) (fs : List D) : biD b ds ≠ .er c fs := by
  match ds with
  | [] => cases b <;> exact bad_ne
  | [x] => cases b <;> cases x <;> first | exact ok_ne | exact bad_ne | exact ite_er ok_ne | exact mat_er (fun _ => ok_ne) | exact ite_er (mat_er (fun _ => ok_ne))
  | [x, y] => cases b <;> cases x <;> first | exact bad_ne | (cases y <;> first | exact ok_ne | exact bad_ne | exact ite_er ok_ne)
  | x :: y :: w :: ds => cases b <;> cases x <;> first | exact bad_ne | (cases y <;> exact bad_ne)
theorem int_er (d : D) (c : String) (fs : List D) : d.int? ≠ .er c fs := by cases d <;> first | exact ok_ne | exact bad_ne
theorem rng_er (i j : Int) (c : String) (fs : List D) : rngD i j ≠ .er c fs := ok_ne
/-- a step that never raises has come to an end -/
theorem RH.got {α : Type} {r : R α} {ok : α → Prop} {er : String → List D → Prop} (h : RH r ok er) (n : ∀ c fs, r ≠ .er c fs) : ∃ a, r = .ok a ∧ ok a := by
  cases r with
  | ok a => exact ⟨a, rfl, h⟩
  | er c fs => exact absurd rfl (n c fs)
  | bad => exact h.elim

/-- behind a look -/
theorem tL_then {K : PySem.W.Frag} {x : Ex} {B F H : Hp} {σ : Sx} {S : Sg} {Q : VK} {α : Type} {f : D → R α} {ok : α → Prop} (s : StOk K B F H σ S) (h : RH (evL g.Γ x S >>= f) ok (ErW g E H))
    (k : ∀ d F1 H1 v, StOk K B F1 H1 σ S → Grow F F1 H H1 → LR K F1 H1 d v → RH (f d) ok (ErW g E H1) → Q v H1) : tL K g E x σ H Q := by
  refine ⟨B, F, S, s, RH.imp (RH.bind h) (fun d _ q F1 H1 v gr l => ?_) fun _ _ z => z⟩
  exact k d F1 H1 v (s.grow gr) gr l (RH.imp q (fun _ _ z => z) fun _ _ z => ErW.same gr.h z)
theorem tT_then {K : PySem.W.Frag} {x : Ex} {B F H : Hp} {σ : Sx} {S : Sg} {Q : Bool → Hp → Prop} {α : Type} {f : Bool → R α} {ok : α → Prop} (s : StOk K B F H σ S) (h : RH (evT g.Γ x S >>= f) ok (ErW g E H))
    (k : ∀ d F1 H1, StOk K B F1 H1 σ S → Grow F F1 H H1 → RH (f d) ok (ErW g E H1) → Q d H1) : tT K g E x σ H Q := by
  refine ⟨B, F, S, s, RH.imp (RH.bind h) (fun d _ q F1 H1 gr => ?_) fun _ _ z => z⟩
  exact k d F1 H1 (s.grow gr) gr (RH.imp q (fun _ _ z => z) fun _ _ z => ErW.same gr.h z)
/-- a name -/
theorem pe_look {i : Nat} {e : Expr} (hx : XOk X c g E) (h : emb c (.var i) e = true) : PE X e (tL X.K g E (.var i)) := by
  cases e with
  | Name x pos =>
    rw [emb] at h
    simp only [Bool.and_eq_true, Bool.not_eq_true', decide_eq_true_eq] at h
    obtain ⟨h1, h2, h3, h4⟩ := h
    refine PE.weak (pe_var (i := i) (by rw [hx.n]; exact h1) (by rw [hx.sc]; exact vis_of h2) h3 h4) fun σ H Q q => ?_
    obtain ⟨B, F, S, s, q⟩ := q
    have q : RH (S.look i) (fun d => ∀ F' H' v, Grow F F' H H' → LR X.K F' H' d v → Q v H') (ErW g E H) := q
    unfold Sg.look at q
    split at q
    · rename_i x e
      obtain ⟨v, e1, r⟩ := s.fz i _ e
      exact ⟨v, e1, q F H v (Grow.refl s.fh) (LR.of s.fh r)⟩
    · rename_i xs e
      obtain ⟨p, vs, e1, hp, _, _, r⟩ := s.own i _ e
      exact ⟨.ref p, e1, q F H _ (Grow.refl s.fh) ⟨p, vs, rfl, hp, r⟩⟩
    · exact q.elim
  | _ => exact absurd (show false = true from h) Bool.false_ne_true
/-- from a value to a look -/
theorem pe_lk {x : Ex} {e : Expr} (hx : XOk X c g E) (h : emb c x e = true) (p : PE X e (tV X.K g E x)) : PE X e (tL X.K g E x) := by
  cases x with
  | var i => exact pe_look hx h
  | _ =>
    refine PE.weak p fun σ H Q q => ?_
    obtain ⟨B, F, S, s, q⟩ := q
    refine ⟨B, F, S, s, ?_⟩
    have q := RH.bind (f := fun x : Val => (pure x.D : R D)) q
    exact RH.imp q (fun val _ q F' H' v gr r => q F' H' v gr (r.look gr.fh)) fun _ _ z => z
/-- a look's truth -/
theorem pt_lk {x : Ex} {e : Expr} (p : PE X e (tL X.K g E x)) (he : ∀ whole, isTrue e X.env whole = (do let v ← whole; standAt e.pos; holding [v] (truthy v))) : PT X e (tT X.K g E x) := by
  refine PT.weak (pt_truth p he) fun σ H Q q => ?_
  obtain ⟨B, F, S, s, q⟩ := q
  refine tL_then (f := fun x => x.truth) s q fun d F1 H1 v s1 gr l q => ?_
  cases e1 : d.truth with
  | ok k =>
    rw [e1] at q
    exact ⟨k, truth_ok gr.fh l e1, q F1 H1 gr⟩
  | er cc fs => exact absurd e1 (truth_er d cc fs)
  | bad => rw [e1] at q; exact q.elim
end
end Fv
end
section
set_option maxHeartbeats 1000000
namespace Fv
open PySem PySem.Spec PyProof.Rows L2

section
variable {K : PySem.W.Frag} {B F H : Hp} {σ : Sx} {S : Sg}
/-- an object that no slot's own list is has changed -/
theorem StOk.other {p : Addr} {o : HO} (s : StOk K B F H σ S) (fp : F p = none) (bp : B p = none) (no : ∀ (i : Nat) (xs : List D) (q : Addr), S[i]? = some (.own xs) → σ[i]? = some (some (.ref q)) → q ≠ p) : StOk K B F (upd H p o) σ S where
  bh := same_upd2 s.bh bp
  fh := same_upd2 s.fh fp
  len := s.len
  fz := s.fz
  own := fun i xs h => by
    obtain ⟨q, vs, e, hq, fq, bq, r⟩ := s.own i xs h
    exact ⟨q, vs, e, by rw [upd_ne (no i xs q h e)]; exact hq, fq, bq, r⟩
  ap := s.ap
theorem wipe_get (σ : Sx) (i : Nat) : ∀ vs : List Nat, (wipe σ vs)[i]? = if i ∈ vs then (if i < σ.length then some none else none) else σ[i]?
  | [] => by rw [if_neg (fun z => nomatch z)]; rfl
  | v :: vs => by
    unfold wipe
    by_cases hi : v = i
    · subst hi
      rw [if_pos (List.mem_cons_self ..)]
      by_cases hl : v < σ.length
      · rw [if_pos hl, List.getElem?_set_self (by rw [wipe_length]; exact hl)]
      · rw [if_neg hl, List.getElem?_eq_none (by rw [List.length_set, wipe_length]; omega)]
    · rw [List.getElem?_set_ne hi, wipe_get σ i vs]
      by_cases hm : i ∈ vs
      · rw [if_pos hm, if_pos (List.mem_cons_of_mem _ hm)]
      · rw [if_neg hm, if_neg (fun z => (List.mem_cons.mp z).elim (fun q => hi q.symm) hm)]
theorem wipeS_len (S : Sg) : ∀ vs : List Nat, (wipeS S vs).length = S.length
  | [] => rfl
  | v :: vs => by unfold wipeS; rw [List.length_set, wipeS_len S vs]
theorem wipeS_get (S : Sg) (i : Nat) : ∀ vs : List Nat, (wipeS S vs)[i]? = if i ∈ vs then (if i < S.length then some .no else none) else S[i]?
  | [] => by rw [if_neg (fun z => nomatch z)]; rfl
  | v :: vs => by
    unfold wipeS
    by_cases hi : v = i
    · subst hi
      rw [if_pos (List.mem_cons_self ..)]
      by_cases hl : v < S.length
      · rw [if_pos hl, List.getElem?_set_self (by rw [wipeS_len]; exact hl)]
      · rw [if_neg hl, List.getElem?_eq_none (by rw [List.length_set, wipeS_len]; omega)]
    · rw [List.getElem?_set_ne hi, wipeS_get S i vs]
      by_cases hm : i ∈ vs
      · rw [if_pos hm, if_pos (List.mem_cons_of_mem _ hm)]
      · rw [if_neg hm, if_neg (fun z => (List.mem_cons.mp z).elim (fun q => hi q.symm) hm)]
theorem wipeS_some {S : Sg} {i : Nat} {vs : List Nat} {x : Sl} (h : (wipeS S vs)[i]? = some x) (n : x ≠ .no) : i ∉ vs ∧ S[i]? = some x := by
  rw [wipeS_get] at h
  by_cases hm : i ∈ vs
  · rw [if_pos hm] at h
    split at h
    · exact absurd (Option.some.inj h).symm n
    · cases h
  · rw [if_neg hm] at h
    exact ⟨hm, h⟩
theorem StOk.wiped (s : StOk K B F H σ S) (vs : List Nat) : StOk K B F H (wipe σ vs) (wipeS S vs) where
  bh := s.bh
  fh := s.fh
  len := by rw [wipe_length, wipeS_len]; exact s.len
  fz := fun i x h => by
    obtain ⟨n, h⟩ := wipeS_some h (fun z => nomatch z)
    obtain ⟨v, e, r⟩ := s.fz i x h
    exact ⟨v, by rw [wipe_get, if_neg n]; exact e, r⟩
  own := fun i xs h => by
    obtain ⟨n, h⟩ := wipeS_some h (fun z => nomatch z)
    obtain ⟨p, vs, e, r⟩ := s.own i xs h
    exact ⟨p, vs, by rw [wipe_get, if_neg n]; exact e, r⟩
  ap := fun i j xs ys p hij h1 h2 e1 e2 => by
    obtain ⟨n1, h1⟩ := wipeS_some h1 (fun z => nomatch z)
    obtain ⟨n2, h2⟩ := wipeS_some h2 (fun z => nomatch z)
    rw [wipe_get, if_neg n1] at e1
    rw [wipe_get, if_neg n2] at e2
    exact s.ap i j xs ys p hij h1 h2 e1 e2
theorem wipe_set {σ : Sx} {vs : List Nat} {i : Nat} {v : Option V} (h : i ∈ vs) : wipe (σ.set i v) vs = wipe σ vs := by
  refine List.ext_getElem? fun j => ?_
  rw [wipe_get, wipe_get, List.length_set]
  by_cases hj : j ∈ vs
  · rw [if_pos hj, if_pos hj]
  · rw [if_neg hj, if_neg hj, List.getElem?_set_ne (fun z => by subst z; exact hj h)]
theorem wipe_wipe {σ : Sx} {vs : List Nat} : wipe (wipe σ vs) vs = wipe σ vs := by
  refine List.ext_getElem? fun j => ?_
  rw [wipe_get, wipe_length, wipe_get]
  by_cases hj : j ∈ vs
  · rw [if_pos hj, if_pos hj]
  · rw [if_neg hj, if_neg hj]
end

/-- only the target's slots change -/
def tgSlots : Tg → List Nat
  | .one i => [i]
  | .tup is => is
def tG (K : PySem.W.Frag) (tg : Tg) : TG := fun v σ H Q => ∃ B F S d S', StOk K B F H σ S ∧ Rp K F d v ∧ tg.set d S = .ok S' ∧ ∀ σ', StOk K B F H σ' S' → (∀ vs, (∀ i ∈ tgSlots tg, i ∈ vs) → wipe σ' vs = wipe σ vs) → Q σ' H
section
variable {X : Cx} {c : Ck} {g : Gv} {E : XK}
def gNames : List Nat → TGs
  | [] => gNil
  | i :: is => gCons (gName i) (gNames is)
theorem pgs_names (hx : XOk X c g E) : ∀ (is : List Nat) (es : List Expr), es.length = is.length → ((is.zip es).all fun p => match p.2 with
      | .Name x _ => decide (c.N[p.1]? = some x) && locB c.ts x
      | _ => false) = true → PGs X es (gNames is) ∧ (assignEach es X.env).length = is.length ∧ (assignEach es X.env).findIdx? (·.1) = none
  | [], [], _, _ => ⟨pgs_nil, rfl, rfl⟩
  | [], _ :: _, h, _ => by cases h
  | _ :: _, [], h, _ => by cases h
  | i :: is, e :: es, hl, h => by
    rw [List.zip_cons_cons, List.all_cons, Bool.and_eq_true] at h
    obtain ⟨p1, p2, p3⟩ := pgs_names hx is es (by simpa using hl) h.2
    cases e with
    | Name x pos =>
      have h1 := h.1
      simp only [Bool.and_eq_true, decide_eq_true_eq] at h1
      obtain ⟨k1, k2⟩ := hx.ts x (loc_of h1.2)
      refine ⟨pgs_cons (pg_name hx.nd (by rw [hx.n]; exact h1.1) k1 k2) p1 rfl, ?_, ?_⟩
      · show ((false, assign (.Name x pos) X.env) :: assignEach es X.env).length = _
        rw [List.length_cons, p2, List.length_cons]
      · show ((false, assign (.Name x pos) X.env) :: assignEach es X.env).findIdx? (·.1) = none
        rw [List.findIdx?_cons, if_neg Bool.false_ne_true, p3]
        rfl
    | _ => exact absurd (show false = true from h.1) Bool.false_ne_true
theorem setAll_ok {K : PySem.W.Frag} {B F H : Hp} {Q : Sx → Hp → Prop} : ∀ (is : List Nat) (xs : List D) (vs : List V) (σ : Sx) (S S' : Sg), StOk K B F H σ S → RpL K F xs vs → setAll is xs S = .ok S' →
    (∀ σ', StOk K B F H σ' S' → (∀ ws, (∀ i ∈ is, i ∈ ws) → wipe σ' ws = wipe σ ws) → Q σ' H) → gNames is vs σ H Q
  | [], [], vs, σ, S, S', s, r, e, q => by
    rw [RpL] at r
    have e : R.ok S = .ok S' := e
    cases e
    exact ⟨r, q σ s fun _ _ => rfl⟩
  | [], _ :: _, _, _, _, _, _, _, e, _ => by cases e
  | _ :: _, [], _, _, _, _, _, _, e, _ => by cases e
  | i :: is, x :: xs, vs, σ, S, S', s, r, e, q => by
    rw [RpL] at r
    obtain ⟨v, r', rfl, h1, h2⟩ := r
    refine ⟨v, r', rfl, ?_⟩
    refine setAll_ok is xs r' (σ.set i (some v)) (S.set i (.fz x)) S' (StOk.set (val := .d x) (H1 := H) s (Grow.refl s.fh) h1) h2 e fun σ' s' w => ?_
    refine q σ' s' fun ws hw => ?_
    rw [w ws (fun j hj => hw j (List.mem_cons_of_mem _ hj)), wipe_set (hw i (List.mem_cons_self ..))]
theorem setAll_len : ∀ (is : List Nat) (xs : List D) (S S' : Sg), setAll is xs S = .ok S' → xs.length = is.length
  | [], [], _, _, _ => rfl
  | [], _ :: _, _, _, h => by cases h
  | _ :: _, [], _, _, h => by cases h
  | i :: is, x :: xs, S, S', h => by rw [List.length_cons, List.length_cons, setAll_len is xs _ _ h]
theorem pg_tg (hx : XOk X c g E) {tg : Tg} {e : Expr} (h : embT c tg e = true) : PG X e (tG X.K tg) := by
  cases tg with
  | one i =>
    cases e with
    | Name x pos =>
      rw [embT] at h
      simp only [Bool.and_eq_true, decide_eq_true_eq] at h
      obtain ⟨k1, k2⟩ := hx.ts x (loc_of h.2)
      have p := pg_name (X := X) (pos := pos) hx.nd (i := i) (by rw [hx.n]; exact h.1) k1 k2
      refine ⟨fun pins s σ H v u Q I r q => p.run pins s σ H v u Q I r ?_⟩
      obtain ⟨B, F, S, d, S', st, rd, es, q⟩ := q
      have es : R.ok (S.set i (.fz d)) = .ok S' := es
      cases es
      exact q _ (StOk.set (val := .d d) (H1 := H) st (Grow.refl st.fh) rd) fun vs hv => wipe_set (hv i (List.mem_singleton.mpr rfl))
    | _ => exact absurd (show false = true from h) Bool.false_ne_true
  | tup is =>
    cases e with
    | Tuple es k pos =>
      rw [embT, Bool.and_eq_true, decide_eq_true_eq] at h
      obtain ⟨p1, p2, p3⟩ := pgs_names hx is es h.1 h.2
      have p := pg_tup (X := X) (pos := pos) (k := k) hx.calm p1 p2 p3
      have p5 := pg_unl (X := X) (pos := pos) (k := k) hx.calm p1 p2 p3
      refine ⟨fun pins s σ H v u Q I r q => ?_⟩
      obtain ⟨B, F, S, d, S', st, rd, es', q⟩ := q
      cases d with
      | tup xs =>
        rw [Rp] at rd
        obtain ⟨a, vs, rfl, e2, e3⟩ := rd
        have es' : setAll is xs S = .ok S' := es'
        refine p.run pins s σ H _ u Q I r ⟨a, vs, rfl, SqT.of (st.fh _ _ e2), ?_, setAll_ok is xs vs σ S S' st e3 es' q⟩
        rw [← e3.len]
        have key : ∀ (is : List Nat) (xs : List D) (S S' : Sg), setAll is xs S = .ok S' → xs.length = is.length := by
          intro is
          induction is with
          | nil => intro xs S S' h; cases xs with
            | nil => rfl
            | cons _ _ => cases h
          | cons i is ih => intro xs S S' h; cases xs with
            | nil => cases h
            | cons x xs => rw [List.length_cons, List.length_cons, ih xs _ _ h]
        exact key is xs S S' es'
      | lst xs =>
        rw [Rp] at rd
        obtain ⟨a, vs, rfl, e2, e3⟩ := rd
        have es' : setAll is xs S = .ok S' := es'
        refine p5.run pins s σ H _ u Q I r ⟨a, vs, rfl, SqL.of (st.fh _ _ e2), ?_, setAll_ok is xs vs σ S S' st e3 es' q⟩
        rw [← e3.len]
        exact setAll_len is xs S S' es'
      | _ => cases es'
    | _ => exact absurd (show false = true from h) Bool.false_ne_true
theorem FnAt.blk {f : String} {n : Nat} (h : FnAt X g f n) (s : Shared) (H : Hp) (scope : Scope) (cenv : Env) (fp : List Addr) : FnAt (X.blk s H scope cenv fp) g f n := ⟨h.ex⟩
theorem MetAt.blk {z m : String} {n : Nat} (h : MetAt X g z m n) (s : Shared) (H : Hp) (scope : Scope) (cenv : Env) (fp : List Addr) : MetAt (X.blk s H scope cenv fp) g z m n := ⟨h.ex⟩
theorem MkAt.blk {z : String} {n : Nat} (h : MkAt X g z n) (s : Shared) (H : Hp) (scope : Scope) (cenv : Env) (fp : List Addr) : MkAt (X.blk s H scope cenv fp) g z n := ⟨h.ex⟩
theorem XOk.blk (hx : XOk X c g E) {scope : Scope} {own : List (Str × Nat)} (ok : BlkOk X.N X.env.scope scope own) (s : Shared) (H : Hp) (C : Addr) (cl : List (Str × Addr)) (fp : List Addr) :
    XOk (X.blk s H scope (compEnvC scope cl C X.env) fp) { c with sc := relS scope c.sc, ts := scope } g E0 where
  n := hx.n
  nd := hx.nd
  sc := by
    show relabel scope X.env = relS scope c.sc
    rw [← hx.sc]
    rfl
  calm := hx.calm
  hu := hx.hu
  ts := fun x h => by
    have key : ∀ k, k ≠ NameKind.free → scope.names.lookup x = some k → (relabel scope X.env).names.lookup x = some k := fun k hk h => lookup_relS_keep (sc := X.env.scope) hk h
    rcases h with h | h
    · exact ⟨.inl (key _ (by decide) h), .inr (key _ (by decide) h)⟩
    · refine ⟨.inr (key _ (by decide) h), .inl ?_⟩
      show (scope.names.lookup x == some .cell) = true
      rw [h]
      rfl
  con := hx.con
  fr := hx.fr
  fn := fun f n h => (hx.fn f n h).blk s H scope _ fp
  ps := passL
  at_ := hx.at_
  me := fun z m n h => (hx.me z m n h).blk s H scope _ fp
  mks := fun z n h => (hx.mks z n h).blk s H scope _ fp
  xb := hx.xb
  xr := fun z n h => ⟨(hx.xr z n h).ex⟩
  ei := hx.ei
end

structure Walks (K : PySem.W.Frag) (J : L2.It) (F : Hp) (xs : List D) : Prop where
  go : ∀ i H', Same F H' → i < xs.length → J.go i H'
  stop : ∀ i H', Same F H' → xs.length ≤ i → J.stop i H'
  yld : ∀ (i : Nat) F1 H1 x H2, Same F F1 → Same F1 H1 → i < xs.length → J.yld i H1 x H2 → ∃ F2 d, Grow F1 F2 H1 H2 ∧ xs[i]? = some d ∧ Rp K F2 d x
def tI (K : PySem.W.Frag) (g : Gv) (E : XK) (it : It) : TI := fun σ H R => ∃ B F S, StOk K B F H σ S ∧ RH (evI g.Γ it S) (fun xs => ∀ J F' H', Grow F F' H H' → Walks K J F' xs → R J H') (ErW g E H)
section
variable {K : PySem.W.Frag} {F : Hp}
theorem walks_list {a : Addr} {xs : List D} {vs : List V} (h : F a = some (.lst vs)) (r : RpL K F xs vs) : Walks K (Itl K a) F xs where
  go := fun i H' s hi => by
    obtain ⟨v, e, _⟩ := r.get (List.getElem?_eq_getElem hi)
    exact ⟨vs, v, SqL.of (s _ _ h), e⟩
  stop := fun i H' s hi => ⟨vs, SqL.of (s _ _ h), by rw [← r.len]; exact hi⟩
  yld := fun i F1 H1 x H2 s1 s2 hi y => by
    obtain ⟨rfl, y⟩ := y
    obtain ⟨v, e, rv⟩ := r.get (List.getElem?_eq_getElem hi)
    have e2 := y vs (SqL.of (s2 _ _ (s1 _ _ h)))
    rw [e] at e2
    cases e2
    exact ⟨F1, xs[i], Grow.refl s2, List.getElem?_eq_getElem hi, Rp.mono s1 _ _ rv⟩
theorem walks_tup {a : Addr} {xs : List D} {vs : List V} (h : F a = some (.tup vs)) (r : RpL K F xs vs) : Walks K (Itt K a) F xs where
  go := fun i H' s hi => by
    obtain ⟨v, e, _⟩ := r.get (List.getElem?_eq_getElem hi)
    exact ⟨vs, v, SqT.of (s _ _ h), e⟩
  stop := fun i H' s hi => ⟨vs, SqT.of (s _ _ h), by rw [← r.len]; exact hi⟩
  yld := fun i F1 H1 x H2 s1 s2 hi y => by
    obtain ⟨rfl, y⟩ := y
    obtain ⟨v, e, rv⟩ := r.get (List.getElem?_eq_getElem hi)
    have e2 := y vs (SqT.of (s2 _ _ (s1 _ _ h)))
    rw [e] at e2
    cases e2
    exact ⟨F1, xs[i], Grow.refl s2, List.getElem?_eq_getElem hi, Rp.mono s1 _ _ rv⟩
theorem walks_scr {a : Addr} {ns : List Int} (h : SqL K F a (ns.map V.int)) : Walks K (Itl K a) F (ns.map D.int) where
  go := fun i H' s hi => by
    rw [List.length_map] at hi
    exact ⟨_, _, s.seq h, by rw [List.getElem?_map, List.getElem?_eq_getElem hi]; rfl⟩
  stop := fun i H' s hi => ⟨_, s.seq h, by rw [List.length_map] at hi ⊢; exact hi⟩
  yld := fun i F1 H1 x H2 s1 s2 hi y => by
    obtain ⟨rfl, y⟩ := y
    rw [List.length_map] at hi
    have e2 := y _ (s2.seq (s1.seq h))
    rw [List.getElem?_map, List.getElem?_eq_getElem hi] at e2
    cases e2
    exact ⟨F1, .int ns[i], Grow.refl s2, by rw [List.getElem?_map, List.getElem?_eq_getElem hi]; rfl, rp_int⟩
theorem numD_len : ∀ (i : Nat) (xs : List D), (numD i xs).length = xs.length
  | _, [] => rfl
  | i, x :: r => congrArg Nat.succ (numD_len (i + 1) r)
theorem numD_get : ∀ (xs : List D) (j i : Nat), (numD j xs)[i]? = (xs[i]?).map fun x => .tup [.int ((j + i : Nat) : Int), x]
  | [], _, _ => rfl
  | x :: r, j, 0 => rfl
  | x :: r, j, i + 1 => by
    show (numD (j + 1) r)[i]? = _
    rw [numD_get r (j + 1) i, List.getElem?_cons_succ]
    have e : j + 1 + i = j + (i + 1) := by omega
    rw [e]
theorem walks_enum {a : Addr} {xs : List D} {vs : List V} (h : F a = some (.lst vs)) (r : RpL K F xs vs) : Walks K (Ite K a) F (numD 0 xs) where
  go := fun i H' s hi => by
    rw [numD_len] at hi
    obtain ⟨v, e, _⟩ := r.get (List.getElem?_eq_getElem hi)
    exact ⟨vs, v, SqL.of (s _ _ h), e⟩
  stop := fun i H' s hi => ⟨vs, SqL.of (s _ _ h), by rw [numD_len] at hi; rw [← r.len]; exact hi⟩
  yld := fun i F1 H1 x H2 s1 s2 hi y => by
    obtain ⟨T, w, rfl, hT, rfl, y⟩ := y
    rw [numD_len] at hi
    obtain ⟨v, e, rv⟩ := r.get (List.getElem?_eq_getElem hi)
    have e2 := y vs (SqL.of (s2 _ _ (s1 _ _ h)))
    rw [e] at e2
    cases e2
    refine ⟨upd F1 T (.tup [.int (i : Nat), w]), .tup [.int ((0 + i : Nat) : Int), xs[i]], Grow.newF s2 hT, by rw [numD_get, List.getElem?_eq_getElem hi]; rfl, ?_⟩
    rw [Nat.zero_add]
    exact rp_tup upd_same (RpL.cons rp_int (RpL.cons (Rp.mono (s1.trans (same_upd (s2.free hT))) _ _ rv) RpL.nil))
theorem walks_str (s : Tx) : Walks K (Its ⟨s.toArray⟩) F (s.map fun c => D.str [c]) where
  go := fun i H' _ hi => by
    rw [List.length_map] at hi
    show i < s.toArray.size
    simpa using hi
  stop := fun i H' _ hi => by
    rw [List.length_map] at hi
    show s.toArray.size ≤ i
    simpa using hi
  yld := fun i F1 H1 x H2 s1 s2 hi y => by
    obtain ⟨rfl, c, e, rfl⟩ := y
    refine ⟨F1, .str [c], Grow.refl s2, ?_, rp_str⟩
    rw [List.getElem?_map]
    have e : s[i]? = some c := by simpa using e
    rw [e]
    rfl
theorem walks_rng (lo : Int) (n : Nat) : Walks K (Itr lo n) F ((List.range n).map fun k => D.int (lo + (k : Nat))) where
  go := fun i H' _ hi => by
    rw [List.length_map, List.length_range] at hi
    exact hi
  stop := fun i H' _ hi => by
    rw [List.length_map, List.length_range] at hi
    exact hi
  yld := fun i F1 H1 x H2 s1 s2 hi y => by
    obtain ⟨rfl, rfl⟩ := y
    rw [List.length_map, List.length_range] at hi
    refine ⟨F1, .int (lo + (i : Nat)), Grow.refl s2, ?_, rp_int⟩
    rw [List.getElem?_map, List.getElem?_range hi]
    rfl
theorem walks_rngC (lo c : Int) (n : Nat) : Walks K (Itc lo c n) F ((List.range n).map fun k => D.int (lo + (k : Nat) * c)) where
  go := fun i H' _ hi => by
    rw [List.length_map, List.length_range] at hi
    exact hi
  stop := fun i H' _ hi => by
    rw [List.length_map, List.length_range] at hi
    exact hi
  yld := fun i F1 H1 x H2 s1 s2 hi y => by
    obtain ⟨rfl, rfl⟩ := y
    rw [List.length_map, List.length_range] at hi
    refine ⟨F1, .int (lo + (i : Nat) * c), Grow.refl s2, ?_, rp_int⟩
    rw [List.getElem?_map, List.getElem?_range hi]
    rfl
theorem walks_rev {a : Addr} {xs : List D} {vs : List V} (h : F a = some (.lst vs)) (r : RpL K F xs vs) : Walks K (Itv K a vs.length) F xs.reverse where
  go := fun i H' s hi => by
    rw [List.length_reverse] at hi
    have hl := r.len
    obtain ⟨v, e, _⟩ := r.get (i := xs.length - 1 - i) (List.getElem?_eq_getElem (by omega))
    exact ⟨by omega, vs, v, SqL.of (s _ _ h), by rw [← hl]; exact e⟩
  stop := fun i H' s hi => by
    rw [List.length_reverse, r.len] at hi
    exact hi
  yld := fun i F1 H1 x H2 s1 s2 hi y => by
    obtain ⟨rfl, y⟩ := y
    rw [List.length_reverse] at hi
    have hl := r.len
    have hj : xs.length - 1 - i < xs.length := by omega
    obtain ⟨v, e, rv⟩ := r.get (List.getElem?_eq_getElem hj)
    have e2 := y vs (SqL.of (s2 _ _ (s1 _ _ h)))
    rw [← hl, e] at e2
    cases e2
    refine ⟨F1, xs[xs.length - 1 - i], Grow.refl s2, ?_, Rp.mono s1 _ _ rv⟩
    rw [List.getElem?_reverse hi, List.getElem?_eq_getElem hj]
theorem walks_revT {a : Addr} {xs : List D} {vs : List V} (h : F a = some (.tup vs)) (r : RpL K F xs vs) : Walks K (RT.ItvT K a vs.length) F xs.reverse where
  go := fun i H' s hi => by
    rw [List.length_reverse] at hi
    have hl := r.len
    obtain ⟨v, e, _⟩ := r.get (i := xs.length - 1 - i) (List.getElem?_eq_getElem (by omega))
    exact ⟨by omega, vs, v, SqT.of (s _ _ h), by rw [← hl]; exact e⟩
  stop := fun i H' s hi => by
    rw [List.length_reverse, r.len] at hi
    exact hi
  yld := fun i F1 H1 x H2 s1 s2 hi y => by
    obtain ⟨rfl, y⟩ := y
    rw [List.length_reverse] at hi
    have hl := r.len
    have hj : xs.length - 1 - i < xs.length := by omega
    obtain ⟨v, e, rv⟩ := r.get (List.getElem?_eq_getElem hj)
    have e2 := y vs (SqT.of (s2 _ _ (s1 _ _ h)))
    rw [← hl, e] at e2
    cases e2
    refine ⟨F1, xs[xs.length - 1 - i], Grow.refl s2, ?_, Rp.mono s1 _ _ rv⟩
    rw [List.getElem?_reverse hi, List.getElem?_eq_getElem hj]
end
end Fv
end
section
set_option maxHeartbeats 2000000
namespace Fv
open PySem PySem.Spec PyProof.Rows L2
theorem bandE {a b : Bool} (h : (a && b) = true) : a = true ∧ b = true := Bool.and_eq_true_iff.mp h
theorem notE {a : Bool} (h : (!a) = true) : a = false := by simpa using h
theorem noF {p : Prop} (h : false = true) : p := absurd h Bool.false_ne_true
section
variable {X : Cx} {c : Ck} {g : Gv} {E : XK}
theorem noset {e : Expr} {env : Env} (h : (match e with | .Set _ _ _ => false | _ => true) = true) : ∀ x, foldedSetIterable e env x = pure x := by
  intro x
  cases e <;> first | rfl | exact noF h
/-- a value's reading, behind two looks -/
theorem tV_bin {K : PySem.W.Frag} {a b : Ex} {B F H : Hp} {σ : Sx} {S : Sg} {Q : VK} {r : R2} {f : D → D → R Val} (s : StOk K B F H σ S)
    (h : RH (evL g.Γ a S >>= fun x => evL g.Γ b S >>= fun y => f x y) (fun val => ∀ F' H' v, Grow F F' H H' → VR K F' H H' val v → Q v H') (ErW g E H))
    (k : ∀ x y F2 H2 v w, StOk K B F2 H2 σ S → Grow F F2 H H2 → LR K F2 H2 x v → LR K F2 H2 y w → RH (f x y) (fun val => ∀ F' H' v, Grow F2 F' H2 H' → VR K F' H2 H' val v → Q v H') (ErW g E H2) → r v w H2 Q) :
    tOp r (tL K g E a) (tL K g E b) σ H Q := by
  refine tL_then s h fun x F1 H1 v s1 g1 l1 h1 => ?_
  refine tL_then s1 h1 fun y F2 H2 w s2 g2 l2 h2 => ?_
  refine k x y F2 H2 v w s2 (g1.trans g2) (l1.grow g2) l2 (RH.imp h2 (fun val _ q F' H' u gr r => ?_) fun _ _ z => z)
  exact q F' H' u ((g1.trans g2).trans gr) (r.back (g1.trans g2).h)
/-- what follows a look, its end carried along -/
theorem tV_look {K : PySem.W.Frag} {a : Ex} {B F H : Hp} {σ : Sx} {S : Sg} {Q Q' : VK} {f : D → R Val} (s : StOk K B F H σ S)
    (h : RH (evL g.Γ a S >>= f) (fun val => ∀ F' H' v, Grow F F' H H' → VR K F' H H' val v → Q v H') (ErW g E H))
    (k : ∀ x F2 H2 v, StOk K B F2 H2 σ S → Grow F F2 H H2 → LR K F2 H2 x v → RH (f x) (fun val => ∀ F' H' v, Grow F2 F' H2 H' → VR K F' H2 H' val v → Q v H') (ErW g E H2) → Q' v H2) : tL K g E a σ H Q' := by
  refine tL_then s h fun x F1 H1 v s1 g1 l1 h1 => k x F1 H1 v s1 g1 l1 (RH.imp h1 (fun val _ q F' H' u gr r => ?_) fun _ _ z => z)
  exact q F' H' u (g1.trans gr) (r.back g1.h)
/-- a comparison's value -/
theorem cmp_end {K : PySem.W.Frag} {o : COp} {x y : D} {F H : Hp} {v w : V} {Q : VK} {f : Bool → R Val} {ok : Val → Prop} (sm : Same F H) (l1 : LR K F H x v) (l2 : LR K F H y w)
    (h : RH (cmpD o x y >>= f) ok (ErW g E H)) (k : ∀ b, RH (f b) ok (ErW g E H) → Q (.bl b) H) : rC K o v w H Q := by
  obtain ⟨b, e, q⟩ := RH.got (RH.bind h) (cmpD_er o x y)
  exact ⟨F, x, y, b, sm, l1, l2, e, k b q⟩
/-- a truth's value -/
theorem fin_b {K : PySem.W.Frag} {F H : Hp} {Q : VK} {k : Bool} (sm : Same F H) (q : RH (R.ok (Val.d (.bl k))) (fun val => ∀ F' H' v, Grow F F' H H' → VR K F' H H' val v → Q v H') (ErW g E H)) : Q (.bl k) H :=
  q F H _ (Grow.refl sm) (show Rp K F (.bl k) (.bl k) from rp_bl)
theorem bi_boot (b : Bi) : bootBuiltins b.name = some b.fn := by cases b <;> decide +kernel
theorem isi_boot {t : String} (h : t ∈ isaT) : bootBuiltins (Str.ofString t) = some (.type t) := by
  unfold isaT at h
  simp only [List.mem_cons, List.mem_nil_iff, or_false] at h
  rcases h with rfl | rfl | rfl | rfl | rfl <;> decide +kernel
theorem kit_of_isa {K : PySem.W.Frag} {u t : String} {k : Bool} (hu : u ∈ ["NoneType", "bool", "int", "str", "list", "tuple"]) (h : t ∈ isaT) (e : k = (u == t || (u == "bool" && t == "int"))) : PySem.W.kitOne K (.type u) (.type t) = some k := by
  subst e
  unfold isaT at h
  simp only [List.mem_cons, List.mem_nil_iff, or_false] at h hu
  rcases hu with rfl | rfl | rfl | rfl | rfl | rfl <;> rcases h with rfl | rfl | rfl | rfl | rfl <;> exact kit_ty (by decide +kernel)
theorem ty_of {K : PySem.W.Frag} {F H : Hp} {x : D} {v : V} {u : String} (sm : Same F H) (l : LR K F H x v) (e : tyD x = some u) : TyX K H v (.type u) ∧ u ∈ ["NoneType", "bool", "int", "str", "list", "tuple"] := by
  cases x with
  | non => obtain rfl := lr_non l; cases e; exact ⟨.base .non, by simp⟩
  | bl b => obtain rfl := lr_bl l; cases e; exact ⟨.base (.bl b), by simp⟩
  | int i => obtain rfl := lr_int l; cases e; exact ⟨.base (.int i), by simp⟩
  | str s => obtain rfl := lr_str l; cases e; exact ⟨.base (.str _), by simp⟩
  | lst xs => obtain ⟨p, vs, rfl, hp, _⟩ := l; cases e; exact ⟨.base (.lst hp), by simp⟩
  | tup xs => obtain ⟨p, vs, rfl, _, hp, _⟩ := lr_tup sm l; cases e; exact ⟨.base (.tup hp), by simp⟩
  | _ => cases e
theorem plainIx {i : Ex} {k : Expr} (h : emb c i k = true) : PlainIx k := by
  intro o x
  cases k <;> first | rfl | (cases i <;> exact noF h)
/-- a call of a def -/
theorem call_end {K : PySem.W.Frag} {f : String} {ds : List D} {own : Bool} {F H : Hp} {vs : List V} {Q : VK} (sm : Same F H) (l : LRs K F H ds vs) (kp : own = false → RpL K F ds vs)
    (h : RH (g.Γ f ds >>= fun v => kept own v) (fun val => ∀ F' H' v, Grow F F' H H' → VR K F' H H' val v → Q v H') (ErW g E H)) : spF K g f vs H Q E := by
  cases own with
  | false =>
    refine ⟨F, ds, sm, kp rfl, RH.imp (RH.bind h) (fun val _ q => ?_) fun _ _ z => z⟩
    have q : RH (if (false && !val.flat) = true then R.bad else .ok val) _ _ := q
    rw [if_neg (by simp)] at q
    exact q
  | true =>
    refine ⟨H, ds, Same.refl H, l.full sm, RH.imp (RH.bind h) (fun val _ q F' H' v gr r => ?_) fun _ _ z => z⟩
    have q : RH (if (true && !val.flat) = true then R.bad else .ok val) _ _ := q
    by_cases hf : val.flat = true
    · rw [if_neg (by simp [hf])] at q
      have g2 : Grow F F H H' := ⟨Same.refl F, sm.trans gr.h, gr.h, fun _ z => .inl z⟩
      refine q F H' v g2 ?_
      cases val with
      | d x => exact Rp.flat (show x.flat = true from hf) r F
      | fr xs =>
        obtain ⟨p, ws, e1, n, e2, _, e3⟩ := r
        exact ⟨p, ws, e1, n, e2, sm.free n, RpL.flat (show xs.all D.flat = true from hf) e3 F⟩
    · rw [if_pos (by simp [hf])] at q
      exact q.elim
theorem PTs.weak {ifs : List Expr} {t t' : TT} (h : PTs X ifs t) (w : ∀ σ H Q, t' σ H Q → t σ H Q) : PTs X ifs t' := ⟨fun pins s σ H Q I q => h.run pins s σ H Q I (w σ H Q q)⟩
theorem noEr_ok {α β : Type} {r : R α} {f : α → R β} {ok : β → Prop} {er : String → List D → Prop} (h : RH (r.noEr >>= f) ok er) : ∃ a, r = .ok a ∧ RH (f a) ok er := by
  cases r with
  | ok a => exact ⟨a, rfl, h⟩
  | er c fs => exact h.elim
  | bad => exact h.elim
theorem lc_ok {K : PySem.W.Frag} {own : List (Str × Nat)} {tg : Tg} {it : It} {d e : Ex} (ht : tgIn (own.map (·.2)) tg = true) {σ : Sx} {H : Hp} {Q : VK} (h : tV K g E (.lc own tg it d e) σ H Q) :
    tLc (tI K g E it) (tG K tg) (tT K g E0 d) (tV K g E0 e) (own.map (·.2)) σ H Q := by
  obtain ⟨B, F, S, st, h⟩ := h
  have h : RH (evI g.Γ it S >>= fun xs => if xs.length ≤ LINE then
      compL tg (wipeS S (own.map (·.2))) (fun S1 => evT g.Γ d S1) (fun S1 => ev g.Γ e S1 >>= fun v => .ok v.D) xs [] >>= fun ys => R.ok (Val.fr ys) else R.bad) _ _ := h
  have htg : ∀ i ∈ tgSlots tg, i ∈ own.map (·.2) := fun i hi => by
    cases tg with
    | one j =>
      have : i = j := List.mem_singleton.mp hi
      subst this
      exact List.contains_iff_mem.mp ht
    | tup is =>
      have := List.all_eq_true.mp ht i hi
      exact List.contains_iff_mem.mp this
  refine ⟨B, F, S, st, RH.imp (RH.bind h) (fun xs _ q J F1 H1 g1 wk D hD => ?_) fun _ _ z => z⟩
  by_cases hz : xs.length ≤ LINE
  · rw [if_pos hz] at q
    have st1 := st.grow g1
    have ne : ∀ (i : Nat) (ys : List Fv.D) (q : Addr), S[i]? = some (.own ys) → σ[i]? = some (some (.ref q)) → q ≠ D := fun i ys q h1 h2 z => by
      obtain ⟨p, vs, e1, hp, _⟩ := st1.own i ys h1
      rw [h2] at e1
      cases e1
      rw [z, hD] at hp
      cases hp
    have bD : B D = none := st1.bh.free hD
    -- what holds at a turn
    refine ⟨fun i m Hc => m = xs.length - i ∧ i ≤ xs.length ∧ ∃ Fc acc avs, StOk K B Fc Hc σ S ∧ Same F1 Fc ∧ Grow F Fc H Hc ∧ Hc D = some (.lst avs) ∧ Fc D = none ∧ RpL K Fc acc avs ∧ acc.length ≤ i ∧
        RH (compL tg (wipeS S (own.map (·.2))) (fun S1 => evT g.Γ d S1) (fun S1 => ev g.Γ e S1 >>= fun v => .ok v.D) (xs.drop i) acc >>= fun ys => R.ok (Val.fr ys)) (fun val => ∀ F' H' v, Grow F F' H H' → VR K F' H H' val v → Q v H') (fun _ _ => False), ?_, ?_⟩
    · refine ⟨xs.length, rfl, Nat.zero_le _, F1, [], [], st1.other (g1.fh.free hD) bD ne, Same.refl _, ?_, upd_same, g1.fh.free hD, RpL.nil, Nat.le_refl _, ?_⟩
      · exact ⟨g1.f, same_upd2 g1.fh (g1.fh.free hD), g1.h.trans (same_upd hD), g1.new⟩
      · have noer : ∀ (xs : List Fv.D) (acc : List Fv.D) (c : String) (fs : List Fv.D), compL tg (wipeS S (own.map (·.2))) (fun S1 => evT g.Γ d S1) (fun S1 => ev g.Γ e S1 >>= fun v => .ok v.D) xs acc ≠ .er c fs := by
          intro xs
          induction xs with
          | nil => intro acc c fs; exact ok_ne
          | cons x xs ih =>
            intro acc c fs z
            have z : (tg.set x (wipeS S (own.map (·.2))) >>= fun S1 => (evT g.Γ d S1).noEr >>= fun b => if b = true then (ev g.Γ e S1 >>= fun v => R.ok v.D).noEr >>= fun y => compL tg (wipeS S (own.map (·.2))) (fun S1 => evT g.Γ d S1) (fun S1 => ev g.Γ e S1 >>= fun v => .ok v.D) xs (acc ++ [y])
              else compL tg (wipeS S (own.map (·.2))) (fun S1 => evT g.Γ d S1) (fun S1 => ev g.Γ e S1 >>= fun v => .ok v.D) xs acc) = .er c fs := z
            have hs : ∀ c fs, tg.set x (wipeS S (own.map (·.2))) ≠ .er c fs := by
              intro c fs
              have sa : ∀ (is : List Nat) (xs : List Fv.D) (S : Sg), setAll is xs S ≠ .er c fs := by
                intro is
                induction is with
                | nil => intro xs S; cases xs <;> first | exact ok_ne | exact bad_ne
                | cons i is ih => intro xs S; cases xs with
                  | nil => exact bad_ne
                  | cons x xs => exact ih xs _
              cases tg with
              | one j => exact ok_ne
              | tup is => cases x <;> first | exact sa is _ _ | exact bad_ne
            cases e1 : tg.set x (wipeS S (own.map (·.2))) with
            | er c' fs' => exact hs c' fs' e1
            | bad => rw [e1] at z; cases z
            | ok S1 =>
              rw [e1] at z
              have z : ((evT g.Γ d S1).noEr >>= fun b => if b = true then (ev g.Γ e S1 >>= fun v => R.ok v.D).noEr >>= fun y => compL tg (wipeS S (own.map (·.2))) (fun S1 => evT g.Γ d S1) (fun S1 => ev g.Γ e S1 >>= fun v => .ok v.D) xs (acc ++ [y])
              else compL tg (wipeS S (own.map (·.2))) (fun S1 => evT g.Γ d S1) (fun S1 => ev g.Γ e S1 >>= fun v => .ok v.D) xs acc) = .er c fs := z
              cases e2 : evT g.Γ d S1 with
              | er _ _ => rw [e2] at z; cases z
              | bad => rw [e2] at z; cases z
              | ok b =>
                rw [e2] at z
                cases b with
                | false => exact ih acc c fs z
                | true =>
                  have z : ((ev g.Γ e S1 >>= fun v => R.ok v.D).noEr >>= fun y => compL tg (wipeS S (own.map (·.2))) (fun S1 => evT g.Γ d S1) (fun S1 => ev g.Γ e S1 >>= fun v => .ok v.D) xs (acc ++ [y])) = .er c fs := z
                  cases e3 : (ev g.Γ e S1 >>= fun v => R.ok v.D) with
                  | er _ _ => rw [e3] at z; cases z
                  | bad => rw [e3] at z; cases z
                  | ok y => rw [e3] at z; exact ih _ c fs z
        rw [List.drop_zero]
        obtain ⟨ys, e1, q2⟩ := RH.got (RH.bind q) (noer xs [])
        rw [e1]
        exact q2
    · rintro i m Hc ⟨rfl, hi, Fc, acc, avs, sc, sF, gc, hDc, fDc, ra, la, q⟩
      by_cases hlt : i < xs.length
      · refine .inr ⟨wk.go i Hc (sF.trans sc.fh) hlt, fun Hn => ∃ Fn acc' avs', StOk K B Fn Hn σ S ∧ Same F1 Fn ∧ Grow F Fn H Hn ∧ Hn D = some (.lst avs') ∧ Fn D = none ∧ RpL K Fn acc' avs' ∧ acc'.length ≤ i + 1 ∧
          RH (compL tg (wipeS S (own.map (·.2))) (fun S1 => evT g.Γ d S1) (fun S1 => ev g.Γ e S1 >>= fun v => .ok v.D) (xs.drop (i + 1)) acc' >>= fun ys => R.ok (Val.fr ys)) (fun val => ∀ F' H' v, Grow F F' H H' → VR K F' H H' val v → Q v H') (fun _ _ => False),
          fun H' ⟨Fn, acc', avs', a1, a2, a3, a4, a5, a6, a7, a8⟩ => ⟨xs.length - (i + 1), by omega, rfl, hlt, Fn, acc', avs', a1, a2, a3, a4, a5, a6, a7, a8⟩, fun x H' y => ?_⟩
        obtain ⟨F2, dx, g2, ex, rx⟩ := wk.yld i Fc Hc x H' sF sc.fh hlt y
        have sc2 := sc.grow g2
        have ed : xs.drop i = dx :: xs.drop (i + 1) := by
          have h3 : xs[i] = dx := by
            rw [List.getElem?_eq_getElem hlt] at ex
            exact Option.some.inj ex
          rw [List.drop_eq_getElem_cons hlt, h3]
        rw [ed] at q
        have q : RH ((tg.set dx (wipeS S (own.map (·.2))) >>= fun S1 => (evT g.Γ d S1).noEr >>= fun b => if b = true then (ev g.Γ e S1 >>= fun v => R.ok v.D).noEr >>= fun y => compL tg (wipeS S (own.map (·.2))) (fun S1 => evT g.Γ d S1) (fun S1 => ev g.Γ e S1 >>= fun v => .ok v.D) (xs.drop (i + 1)) (acc ++ [y])
              else compL tg (wipeS S (own.map (·.2))) (fun S1 => evT g.Γ d S1) (fun S1 => ev g.Γ e S1 >>= fun v => .ok v.D) (xs.drop (i + 1)) acc) >>= fun ys => R.ok (Val.fr ys)) _ _ := q
        have q := RH.bind q
        have q := RH.bind q
        cases e1 : tg.set dx (wipeS S (own.map (·.2))) with
        | er _ _ => rw [e1] at q; exact q.elim
        | bad => rw [e1] at q; exact q.elim
        | ok S1 =>
          rw [e1] at q
          refine ⟨B, F2, wipeS S (own.map (·.2)), dx, S1, sc2.wiped _, rx, e1, fun σ2 s2 w2 => ⟨(w2 _ htg).trans wipe_wipe, ?_⟩⟩
          obtain ⟨b, e2, q⟩ := noEr_ok q
          refine ⟨B, F2, S1, s2, ?_⟩
          rw [e2]
          refine fun F3 H3 g3 => ?_
          have s3 := s2.grow g3
          have c3 := sc2.grow g3
          have hD3 : H3 D = some (.lst avs) := g3.h _ _ (g2.h _ _ hDc)
          have g23 := g2.trans g3
          have fD3 : F3 D = none := g23.non fDc (by rw [hDc]; exact fun z => nomatch z)
          cases b with
          | false =>
            refine iteF ?_
            refine ⟨F3, acc, avs, c3, sF.trans g23.f, gc.trans g23, hD3, fD3, RpL.mono g23.f _ _ ra, by omega, ?_⟩
            · cases e4 : compL tg (wipeS S (own.map (·.2))) (fun S1 => evT g.Γ d S1) (fun S1 => ev g.Γ e S1 >>= fun v => .ok v.D) (xs.drop (i + 1)) acc with
              | ok ys => rw [if_neg Bool.false_ne_true, e4] at q; exact q
              | er _ _ => rw [if_neg Bool.false_ne_true, e4] at q; exact q
              | bad => rw [if_neg Bool.false_ne_true, e4] at q; exact q
          | true =>
            refine iteT ?_
            rw [if_pos rfl] at q
            obtain ⟨y0, e3, q⟩ := noEr_ok q
            refine ⟨B, F3, S1, s3, ?_⟩
            cases e4 : ev g.Γ e S1 with
            | er _ _ => rw [e4] at e3; cases e3
            | bad => rw [e4] at e3; cases e3
            | ok val =>
              rw [e4] at e3
              cases e3
              refine fun F4 H4 yv g4 r4 => ?_
              obtain ⟨F5, g5, s45, r5⟩ := r4.keep g4
              have hD4 : H4 D = some (.lst avs) := g4.h _ _ hD3
              have fD5 : F5 D = none := g5.non fD3 (by rw [hD3]; exact fun z => nomatch z)
              have c5 := c3.grow g5
              have g25 := g23.trans g5
              have z1 : avs.length < sizeLine := by
                rw [← ra.len, ← line_eq]
                omega
              refine ⟨avs, hD4, z1, F5, acc ++ [val.D], avs ++ [yv], c5.other fD5 bD ne, sF.trans g25.f, ?_, upd_same, fD5, (RpL.mono g25.f _ _ ra).app (RpL.cons r5 RpL.nil), ?_, ?_⟩
              · have gg := gc.trans g25
                exact ⟨gg.f, same_upd2 gg.fh fD5, same_upd2 gg.h (g1.h.free hD), gg.new⟩
              · rw [List.length_append]
                show acc.length + 1 ≤ i + 1
                omega
              · cases e6 : compL tg (wipeS S (own.map (·.2))) (fun S1 => evT g.Γ d S1) (fun S1 => ev g.Γ e S1 >>= fun v => .ok v.D) (xs.drop (i + 1)) (acc ++ [val.D]) with
                | ok ys => rw [e6] at q; exact q
                | er _ _ => rw [e6] at q; exact q
                | bad => rw [e6] at q; exact q
      · have ei : i = xs.length := by omega
        subst ei
        refine .inl ⟨wk.stop _ Hc (sF.trans sc.fh) (Nat.le_refl _), ?_⟩
        rw [List.drop_length] at q
        exact q Fc Hc _ gc ⟨D, avs, rfl, g1.h.free hD, hDc, fDc, ra⟩
  · rw [if_neg hz] at q
    exact q.elim
end
end Fv
end
section
set_option maxHeartbeats 4000000
namespace Fv
open PySem PySem.Spec PyProof.Rows L2
theorem plain_isTrue {e : Expr} {env : Env} (h : (match e with | .UnaryOp .Not _ _ => false | .BoolOp _ _ _ => false | .IfExp _ _ _ _ => false | .Compare _ _ _ _ => false | _ => true) = true) :
    ∀ whole, isTrue e env whole = (do let v ← whole; standAt e.pos; holding [v] (truthy v)) := by
  intro whole
  cases e with
  | UnaryOp op x pos => cases op <;> first | rfl | exact noF h
  | BoolOp _ _ _ => exact noF h
  | IfExp _ _ _ _ => exact noF h
  | Compare _ _ _ _ => exact noF h
  | _ => rfl
theorem rngD_ok {i j : Int} {xs : List D} (h : rngD i j = .ok xs) : xs = (List.range (j - i).toNat).map fun k => D.int (i + (k : Nat)) := by
  unfold rngD at h
  cases h
  rfl
theorem int_of {d : D} {i : Int} (h : d.int? = .ok i) : d = .int i := by
  cases d <;> first | (cases h; rfl) | (cases h)
section
variable {X : Cx} {c : Ck} {g : Gv} {E : XK}
/-- the ways through and, or: the rest of the row -/
theorem row_and {b : Ex} {r : Expr} {rest : List Expr} {pos : Pos} (h : (match rest with | [] => emb c b r | _ => emb c b (.BoolOp .And (r :: rest) pos)) = true) (k : ∀ e, emb c b e = true → PE X e (tV X.K g E b)) : PE X (.BoolOp .And (r :: rest) pos) (tV X.K g E b) := by
  cases rest with
  | nil => exact pe_one (k _ h)
  | cons _ _ => exact k _ h
theorem row_or {b : Ex} {r : Expr} {rest : List Expr} {pos : Pos} (h : (match rest with | [] => emb c b r | _ => emb c b (.BoolOp .Or (r :: rest) pos)) = true) (k : ∀ e, emb c b e = true → PE X e (tV X.K g E b)) : PE X (.BoolOp .Or (r :: rest) pos) (tV X.K g E b) := by
  cases rest with
  | nil => exact pe_one (k _ h)
  | cons _ _ => exact k _ h
theorem pe_val {i : Nat} {e : Expr} (hx : XOk X c g E) (h : emb c (.var i) e = true) : PE X e (tV X.K g E (.var i)) := by
  cases e with
  | Name x pos =>
    rw [emb] at h
    simp only [Bool.and_eq_true, Bool.not_eq_true', decide_eq_true_eq] at h
    obtain ⟨h1, h2, h3, h4⟩ := h
    refine PE.weak (pe_var (i := i) (by rw [hx.n]; exact h1) (by rw [hx.sc]; exact vis_of h2) h3 h4) fun σ H Q q => ?_
    obtain ⟨B, F, S, s, q⟩ := q
    have q : RH (S.get i >>= fun x => R.ok (Val.d x)) (fun val => ∀ F' H' v, Grow F F' H H' → VR X.K F' H H' val v → Q v H') (ErW g E H) := q
    unfold Sg.get at q
    split at q
    · rename_i x e
      obtain ⟨v, e1, r⟩ := s.fz i _ e
      exact ⟨v, e1, q F H v (Grow.refl s.fh) r⟩
    · exact q.elim
  | _ => exact noF h
theorem pe_cst {d : D} {e : Expr} (hx : XOk X c g E) (h : emb c (.cst d) e = true) : PE X e (tV X.K g E (.cst d)) := by
  have fin : ∀ {v : V}, (∀ F, Rp X.K F d v) → ∀ σ H Q, tV X.K g E (.cst d) σ H Q → tC v σ H Q := fun {v} r σ H Q q => by
    obtain ⟨B, F, S, s, q⟩ := q
    exact q F H v (Grow.refl s.fh) (r F)
  cases e with
  | Constant k j pos =>
    replace h : cstB d k = true := h
    cases d <;> cases k <;> try (exact noF h)
    case non.none => exact PE.weak pe_non (fin fun F => rp_non)
    case bl.bool a b =>
      have e : a = b := eq_of_beq h
      subst e
      exact PE.weak pe_bl (fin fun F => rp_bl)
    case int.int i j =>
      have e : i = j := of_decide_eq_true h
      subst e
      exact PE.weak pe_int (fin fun F => rp_int)
    case str.str s z =>
      have e : z = ⟨s.toArray⟩ := of_decide_eq_true h
      subst e
      exact PE.weak pe_str (fin fun F => rp_str)
  | Name x pos =>
    obtain ⟨h1, h2⟩ := bandE h
    obtain ⟨k1, k2, k3⟩ := glo_of hx h1
    cases e : c.G.lookup x with
    | none => rw [e] at h2; cases h2
    | some v =>
      rw [e] at h2
      obtain ⟨u, m, r⟩ := hx.con x v e
      cases d <;> cases v <;> try (exact noF h2)
      case int.int i j =>
        have e : i = j := of_decide_eq_true h2
        subst e
        exact PE.weak (pe_glob k1 m r k2) (fin fun F => rp_int)
      case str.str s z =>
        have e : z = ⟨s.toArray⟩ := of_decide_eq_true h2
        subst e
        exact PE.weak (pe_glob k1 m r k2) (fin fun F => rp_str)
  | _ => exact noF h
theorem evsL_len {Γ : Fns} {S : Sg} : ∀ {es : Exs} {l : List Expr} {xs : List D}, embs c es l = true → evsL Γ es S = .ok xs → xs.length = l.length
  | .nil, l, xs, h, e => by
    cases l with
    | nil =>
      have e : R.ok [] = R.ok xs := e
      cases e
      rfl
    | cons _ _ => exact noF h
  | .cons a r, l, xs, h, e => by
    cases l with
    | nil => exact noF h
    | cons x l =>
      obtain ⟨h1, h2⟩ := bandE h
      obtain ⟨h2, h3⟩ := bandE h2
      have e : (lookE a S (ev Γ a S) >>= fun x => evsL Γ r S >>= fun xs => R.ok (x :: xs)) = R.ok xs := e
      cases e1 : lookE a S (ev Γ a S) with
      | er _ _ => rw [e1] at e; cases e
      | bad => rw [e1] at e; cases e
      | ok y =>
        rw [e1] at e
        have e : (evsL Γ r S >>= fun xs => R.ok (y :: xs)) = R.ok xs := e
        cases e2 : evsL Γ r S with
        | er _ _ => rw [e2] at e; cases e
        | bad => rw [e2] at e; cases e
        | ok ys =>
          rw [e2] at e
          cases e
          rw [List.length_cons, List.length_cons, evsL_len h3 e2]
theorem embI_noset {it : It} {e : Expr} {env : Env} (h : embI c it e = true) : ∀ x, foldedSetIterable e env x = pure x := by
  cases it with
  | seq a => exact noset (bandE h).2
  | rng a => cases e <;> first | (intro x; rfl) | exact noF h
  | enum a => cases e <;> first | (intro x; rfl) | exact noF h
  | rng2 a b => cases e <;> first | (intro x; rfl) | exact noF h
  | rng3 a b d => cases e <;> first | (intro x; rfl) | exact noF h
  | revs a => cases e <;> first | (intro x; rfl) | exact noF h
/-- what is proved of an expression: as a value, as a test, within and, or -/
structure Snd (X : Cx) (g : Gv) (E : XK) (x : Ex) (e : Expr) : Prop where
  v : PE X e (tV X.K g E x)
  t : PT X e (tT X.K g E x)
  w : ∀ op vs pos, e = .BoolOp op vs pos → PW X e (tT X.K g E x)
def plainB (e : Expr) : Bool := match e with
  | .UnaryOp .Not _ _ => false
  | .BoolOp _ _ _ => false
  | .IfExp _ _ _ _ => false
  | .Compare _ _ _ _ => false
  | _ => true
theorem Snd.plain {x : Ex} {e : Expr} (hx : XOk X c g E) (h : emb c x e = true) (hp : plainB e = true) (p : PE X e (tV X.K g E x)) : Snd X g E x e where
  v := p
  t := pt_lk (pe_lk hx h p) (plain_isTrue hp)
  w := fun op vs pos z => by rw [z] at hp; exact noF hp
theorem get_er (S : Sg) (i : Nat) (cc : String) (fs : List D) : S.get i ≠ .er cc fs := by
  unfold Sg.get
  split
  · exact ok_ne
  · exact bad_ne
/-- a value's look -/
theorem evL_ok {Γ : Fns} {x : Ex} {S : Sg} {val : Val} (h : ev Γ x S = .ok val) : evL Γ x S = .ok val.D := by
  cases x with
  | var i =>
    have h : (S.get i >>= fun x => R.ok (Val.d x)) = .ok val := h
    show S.look i = _
    unfold Sg.get at h
    unfold Sg.look
    cases q : S[i]? with
    | none => rw [q] at h; cases h
    | some sl =>
      rw [q] at h
      cases sl with
      | fz y => cases h; rfl
      | _ => cases h
  | _ =>
    show (ev Γ _ S >>= fun x => R.ok x.D) = _
    rw [h]; rfl
theorem evL_er {Γ : Fns} {x : Ex} {S : Sg} {cc : String} {fs : List D} (h : ev Γ x S = .er cc fs) : evL Γ x S = .er cc fs := by
  cases x with
  | var i =>
    have h : (S.get i >>= fun x => R.ok (Val.d x)) = .er cc fs := h
    cases e : S.get i with
    | ok y => rw [e] at h; cases h
    | er a b => exact absurd e (get_er S i a b)
    | bad => rw [e] at h; cases h
  | _ =>
    show (ev Γ _ S >>= fun x => R.ok x.D) = _
    rw [h]; rfl
theorem evT_nt {Γ : Fns} {a : Ex} {S : Sg} : evT Γ (.nt a) S = (evT Γ a S >>= fun k => .ok (!k)) := by
  show ((evL Γ a S >>= fun x => x.truth >>= fun k => R.ok (Val.d (.bl (!k)))) >>= fun x => R.ok x.D) >>= (fun x => x.truth) = ((evL Γ a S >>= fun x => x.truth) >>= fun k => .ok (!k))
  cases evL Γ a S with
  | ok d => cases e : d.truth with
    | ok k => show ((d.truth >>= fun k => R.ok (Val.d (.bl (!k)))) >>= fun x => R.ok x.D) >>= (fun x => x.truth) = (d.truth >>= fun k => .ok (!k)); rw [e]; rfl
    | er _ _ => exact absurd e (truth_er d _ _)
    | bad => show ((d.truth >>= fun k => R.ok (Val.d (.bl (!k)))) >>= fun x => R.ok x.D) >>= (fun x => x.truth) = (d.truth >>= fun k => .ok (!k)); rw [e]; rfl
  | er _ _ => rfl
  | bad => rfl
theorem evT_and {Γ : Fns} {a b : Ex} {S : Sg} {ok : Bool → Prop} {er : String → List D → Prop} (h : RH (evT Γ (.and a b) S) ok er) : RH (evT Γ a S >>= fun k => if k then evT Γ b S else .ok false) ok er := by
  have h : RH (((ev Γ a S >>= fun v => v.D.truth >>= fun k => if k then ev Γ b S else R.ok v) >>= fun x => R.ok x.D) >>= fun x => x.truth) ok er := h
  show RH ((evL Γ a S >>= fun x => x.truth) >>= fun k => if k then evT Γ b S else .ok false) ok er
  cases e : ev Γ a S with
  | ok v =>
    rw [e] at h
    rw [evL_ok e]
    have h : RH (((v.D.truth >>= fun k => if k then ev Γ b S else R.ok v) >>= fun x => R.ok x.D) >>= fun x => x.truth) ok er := h
    show RH (v.D.truth >>= fun k => if k then evT Γ b S else .ok false) ok er
    cases e2 : v.D.truth with
    | ok k =>
      rw [e2] at h
      cases k with
      | true =>
        have h : RH ((ev Γ b S >>= fun x => R.ok x.D) >>= fun x => x.truth) ok er := h
        show RH (evL Γ b S >>= fun x => x.truth) ok er
        cases e3 : ev Γ b S with
        | ok w => rw [e3] at h; rw [evL_ok e3]; exact h
        | er _ _ => rw [e3] at h; rw [evL_er e3]; exact h
        | bad => rw [e3] at h; exact h.elim
      | false =>
        have h : RH v.D.truth ok er := h
        rw [e2] at h
        exact h
    | er _ _ => exact absurd e2 (truth_er _ _ _)
    | bad => rw [e2] at h; exact h.elim
  | er _ _ => rw [e] at h; rw [evL_er e]; exact h
  | bad => rw [e] at h; exact h.elim
theorem evT_or {Γ : Fns} {a b : Ex} {S : Sg} {ok : Bool → Prop} {er : String → List D → Prop} (h : RH (evT Γ (.or a b) S) ok er) : RH (evT Γ a S >>= fun k => if k then .ok true else evT Γ b S) ok er := by
  have h : RH (((ev Γ a S >>= fun v => v.D.truth >>= fun k => if k then R.ok v else ev Γ b S) >>= fun x => R.ok x.D) >>= fun x => x.truth) ok er := h
  show RH ((evL Γ a S >>= fun x => x.truth) >>= fun k => if k then .ok true else evT Γ b S) ok er
  cases e : ev Γ a S with
  | ok v =>
    rw [e] at h
    rw [evL_ok e]
    have h : RH (((v.D.truth >>= fun k => if k then R.ok v else ev Γ b S) >>= fun x => R.ok x.D) >>= fun x => x.truth) ok er := h
    show RH (v.D.truth >>= fun k => if k then .ok true else evT Γ b S) ok er
    cases e2 : v.D.truth with
    | ok k =>
      rw [e2] at h
      cases k with
      | false =>
        have h : RH ((ev Γ b S >>= fun x => R.ok x.D) >>= fun x => x.truth) ok er := h
        show RH (evL Γ b S >>= fun x => x.truth) ok er
        cases e3 : ev Γ b S with
        | ok w => rw [e3] at h; rw [evL_ok e3]; exact h
        | er _ _ => rw [e3] at h; rw [evL_er e3]; exact h
        | bad => rw [e3] at h; exact h.elim
      | true =>
        have h : RH v.D.truth ok er := h
        rw [e2] at h
        exact h
    | er _ _ => exact absurd e2 (truth_er _ _ _)
    | bad => rw [e2] at h; exact h.elim
  | er _ _ => rw [e] at h; rw [evL_er e]; exact h
  | bad => rw [e] at h; exact h.elim
theorem tTest_of {K : PySem.W.Frag} {x : Ex} {σ : Sx} {H : Hp} {Q : Bool → Hp → Prop} (hl : ∀ S, evL g.Γ x S = (ev g.Γ x S >>= fun x => R.ok x.D)) (hb : ∀ S val, ev g.Γ x S = .ok val → ∃ k, val = .d (.bl k)) (h : tT K g E x σ H Q) :
    tV K g E x σ H (fun v H' => ∃ k, v = .bl k ∧ Q k H') := by
  obtain ⟨B, F, S, s, q⟩ := h
  have q : RH (evL g.Γ x S >>= fun x => x.truth) (fun k => ∀ F' H', Grow F F' H H' → Q k H') (ErW g E H) := q
  rw [hl] at q
  refine ⟨B, F, S, s, ?_⟩
  cases e : ev g.Γ x S with
  | ok val =>
    obtain ⟨k, rfl⟩ := hb S val e
    rw [e] at q
    have q : ∀ F' H', Grow F F' H H' → Q k H' := q
    exact fun F' H' v gr r => ⟨k, r, q F' H' gr⟩
  | er _ _ => rw [e] at q; exact q
  | bad => rw [e] at q; exact q.elim
theorem bind_ok {α β : Type} {r : R α} {f : α → R β} {b : β} (h : (r >>= f) = .ok b) : ∃ a, r = .ok a ∧ f a = .ok b := by
  cases r with
  | ok a => exact ⟨a, rfl, h⟩
  | er _ _ => cases h
  | bad => cases h
theorem evL_cmp {Γ : Fns} {o : COp} {a b : Ex} {S : Sg} : evL Γ (.cmp o a b) S = (ev Γ (.cmp o a b) S >>= fun x => R.ok x.D) := rfl
theorem evL_chn {Γ : Fns} {o p : COp} {a b d : Ex} {S : Sg} : evL Γ (.chn o p a b d) S = (ev Γ (.chn o p a b d) S >>= fun x => R.ok x.D) := rfl
theorem cmp_bl {Γ : Fns} {o : COp} {a b : Ex} {S : Sg} {val : Val} (h : ev Γ (.cmp o a b) S = .ok val) : ∃ k, val = .d (.bl k) := by
  obtain ⟨x, _, h⟩ := bind_ok (f := fun x => evL Γ b S >>= fun y => cmpD o x y >>= fun c => R.ok (Val.d (.bl c))) h
  obtain ⟨y, _, h⟩ := bind_ok h
  obtain ⟨k, _, h⟩ := bind_ok h
  cases h
  exact ⟨k, rfl⟩
theorem chn_bl {Γ : Fns} {o p : COp} {a b d : Ex} {S : Sg} {val : Val} (h : ev Γ (.chn o p a b d) S = .ok val) : ∃ k, val = .d (.bl k) := by
  obtain ⟨x, _, h⟩ := bind_ok (f := fun x => evL Γ b S >>= fun y => cmpD o x y >>= fun k => if k then evL Γ d S >>= fun z => cmpD p y z >>= fun l => R.ok (Val.d (.bl l)) else R.ok (Val.d (.bl false))) h
  obtain ⟨y, _, h⟩ := bind_ok h
  obtain ⟨k, _, h⟩ := bind_ok h
  cases k with
  | true =>
    obtain ⟨z, _, h⟩ := bind_ok (f := fun z => cmpD p y z >>= fun l => R.ok (Val.d (.bl l))) h
    obtain ⟨k, _, h⟩ := bind_ok h
    cases h
    exact ⟨k, rfl⟩
  | false => cases h; exact ⟨false, rfl⟩
theorem row_andW {b : Ex} {r : Expr} {rest : List Expr} {pos : Pos} (h : (match rest with | [] => emb c b r | _ => emb c b (.BoolOp .And (r :: rest) pos)) = true) (k : ∀ e, emb c b e = true → Snd X g E b e) : PW X (.BoolOp .And (r :: rest) pos) (tT X.K g E b) := by
  cases rest with
  | nil => exact pw_and1 (k _ h).t
  | cons _ _ => exact (k _ h).w _ _ _ rfl
theorem row_orW {b : Ex} {r : Expr} {rest : List Expr} {pos : Pos} (h : (match rest with | [] => emb c b r | _ => emb c b (.BoolOp .Or (r :: rest) pos)) = true) (k : ∀ e, emb c b e = true → Snd X g E b e) : PW X (.BoolOp .Or (r :: rest) pos) (tT X.K g E b) := by
  cases rest with
  | nil => exact pw_or1 (k _ h).t
  | cons _ _ => exact (k _ h).w _ _ _ rfl
def tA1 (K : PySem.W.Frag) (g : Gv) (E : XK) (x : Ex) : TE := fun σ H Q => ∃ B F S, StOk K B F H σ S ∧ RH (evL g.Γ x S) (fun d => ∀ F' H' v, Grow F F' H H' → LR K F' H' d v → (ownE x S = false → Rp K F' d v) → Q v H') (ErW g E H)
theorem pe_arg {x : Ex} {e : Expr} (hx : XOk X c g E) (h : emb c x e = true) (p : PE X e (tV X.K g E x)) : PE X e (tA1 X.K g E x) := by
  cases x with
  | var i =>
    cases e with
    | Name x pos =>
      rw [emb] at h
      simp only [Bool.and_eq_true, Bool.not_eq_true', decide_eq_true_eq] at h
      obtain ⟨h1, h2, h3, h4⟩ := h
      refine PE.weak (pe_var (i := i) (by rw [hx.n]; exact h1) (by rw [hx.sc]; exact vis_of h2) h3 h4) fun σ H Q q => ?_
      obtain ⟨B, F, S, s, q⟩ := q
      have q : RH (S.look i) (fun d => ∀ F' H' v, Grow F F' H H' → LR X.K F' H' d v → (S.isOwn i = false → Rp X.K F' d v) → Q v H') (ErW g E H) := q
      unfold Sg.look at q
      split at q
      · rename_i x e
        obtain ⟨v, e1, r⟩ := s.fz i _ e
        exact ⟨v, e1, q F H v (Grow.refl s.fh) (LR.of s.fh r) fun _ => r⟩
      · rename_i xs e
        obtain ⟨p, vs, e1, hp, _, _, r⟩ := s.own i _ e
        exact ⟨.ref p, e1, q F H _ (Grow.refl s.fh) ⟨p, vs, rfl, hp, r⟩ fun z => by unfold Sg.isOwn at z; rw [e] at z; cases z⟩
      · exact q.elim
    | _ => exact noF h
  | _ =>
    refine PE.weak p fun σ H Q q => ?_
    obtain ⟨B, F, S, s, q⟩ := q
    refine ⟨B, F, S, s, ?_⟩
    have q := RH.bind (f := fun x : Val => (pure x.D : R D)) q
    refine RH.imp q (fun val _ q F' H' v gr r => ?_) fun _ _ z => z
    obtain ⟨F2, g2, _, r2⟩ := r.keep gr
    exact q F2 H' v g2 (LR.of g2.fh r2) fun _ => r2
theorem seq_er (d : D) (c : String) (fs : List D) : d.seq? ≠ .er c fs := by cases d <;> first | exact ok_ne | exact bad_ne
theorem pi_or {tg e : Expr} {t u : TI} (h1 : PI X tg e t) (h2 : PI X tg e u) : PI X tg e (fun σ H R => t σ H R ∨ u σ H R) := ⟨fun pins s σ H R I h => h.elim (h1.run pins s σ H R I) (h2.run pins s σ H R I)⟩
end
end Fv
end
section
set_option maxHeartbeats 400000
namespace Fv
open PySem PySem.Spec PyProof.Rows L2
def SndP (x : Ex) : Prop := ∀ (c : Ck) (X : Cx) (g : Gv) (E : XK) (e : Expr), XOk X c g E → emb c x e = true → Snd X g E x e
def AsP (es : Exs) : Prop := ∀ (c : Ck) (X : Cx) (g : Gv) (E : XK) (l : List Expr), XOk X c g E → embs c es l = true → PA X l (tAs X.K g E es)
def DsP (es : Exs) : Prop := ∀ (c : Ck) (X : Cx) (g : Gv) (E : XK) (l : List Expr), XOk X c g E → embs c es l = true → PA X l (tDs X.K g E es)
def ItP (it : It) : Prop := ∀ (c : Ck) (X : Cx) (g : Gv) (E : XK) (tg e : Expr), XOk X c g E → embI c it e = true → tgOk it tg = true → PI X tg e (tI X.K g E it)
theorem SndP.go {x : Ex} (h : SndP x) {c : Ck} {X : Cx} {g : Gv} {E : XK} {e : Expr} (hx : XOk X c g E) (k : emb c x e = true) : Snd X g E x e := h c X g E e hx k
theorem AsP.go {x : Exs} (h : AsP x) {c : Ck} {X : Cx} {g : Gv} {E : XK} {e : List Expr} (hx : XOk X c g E) (k : embs c x e = true) : PA X e (tAs X.K g E x) := h c X g E e hx k
theorem DsP.go {x : Exs} (h : DsP x) {c : Ck} {X : Cx} {g : Gv} {E : XK} {e : List Expr} (hx : XOk X c g E) (k : embs c x e = true) : PA X e (tDs X.K g E x) := h c X g E e hx k
theorem ItP.go {x : It} (h : ItP x) {c : Ck} {X : Cx} {g : Gv} {E : XK} {tg e : Expr} (hx : XOk X c g E) (k : embI c x e = true) (t : tgOk x tg = true) : PI X tg e (tI X.K g E x) := h c X g E tg e hx k t
section
variable {X : Cx} {c : Ck} {g : Gv} {E : XK}
theorem k_ev_var {i : Nat}  : SndP (.var i) := by
  intro c X g E e hx h
  exact Snd.plain hx h (by cases e <;> first | rfl | exact noF h) (pe_val hx h)
theorem k_ev_cst {d : D}  : SndP (.cst d) := by
  intro c X g E e hx h
  exact Snd.plain hx h (by cases e <;> first | rfl | exact noF h) (pe_cst hx h)
theorem k_ev_bin {o : BOp} {a : Ex} {b : Ex} (i_a : SndP a) (i_b : SndP b) : SndP (.bin o a b) := by
  intro c X g E e hx h
  cases e with
  | BinOp l op r pos =>
    obtain ⟨h1, h2⟩ := bandE h
    obtain ⟨h2, h3⟩ := bandE h2
    have e1 : op = o.op := of_decide_eq_true h1
    subst e1
    refine Snd.plain hx h rfl ?_
    refine PE.weak (pe_op (op_bin o) (pe_lk hx h2 (i_a.go hx h2).v) (pe_lk hx h3 (i_b.go hx h3).v)) fun σ H Q q => ?_
    obtain ⟨B, F, S, s, q⟩ := q
    refine tV_bin (f := fun x y => binD o x y) s q fun x y F2 H2 v w s2 _ l1 l2 q => ?_
    obtain ⟨val, e1, q⟩ := RH.got q (binD_er o x y)
    exact ⟨F2, x, y, val, s2.fh, l1, l2, e1, q⟩
  | _ => exact noF h
theorem k_ev_neg {a : Ex} (i_a : SndP a) : SndP (.neg a) := by
  intro c X g E e hx h
  cases e with
  | UnaryOp op l pos =>
    obtain ⟨h1, h2⟩ := bandE h
    have e1 : op = .USub := of_decide_eq_true h1
    subst e1
    refine Snd.plain hx h rfl ?_
    refine PE.weak (pe_un un_neg (pe_lk hx h2 (i_a.go hx h2).v)) fun σ H Q q => ?_
    obtain ⟨B, F, S, s, q⟩ := q
    refine tV_look (f := fun x => x.int? >>= fun i => .ok (.d (.int (-i)))) s q fun x F2 H2 v s2 _ l1 q => ?_
    obtain ⟨i, e1, q⟩ := RH.got (RH.bind q) (int_er x)
    obtain rfl := int_of e1
    exact ⟨i, lr_int l1, q F2 H2 _ (Grow.refl s2.fh) (show Rp X.K F2 (.int (-i)) (.int (-i)) from rp_int)⟩
  | _ => exact noF h
theorem k_ev_nt {a : Ex} (i_a : SndP a) : SndP (.nt a) := by
  intro c X g E e hx h
  cases e with
  | UnaryOp op l pos =>
    obtain ⟨h1, h2⟩ := bandE h
    have e1 : op = .Not := of_decide_eq_true h1
    subst e1
    have ih := i_a.go hx h2
    refine ⟨PE.weak (pe_notT (pe_lk hx h2 ih.v)) fun σ H Q q => ?_, PT.weak (pt_not ih.t) fun σ H Q q => ?_, fun _ _ _ z => nomatch z⟩
    · obtain ⟨B, F, S, s, q⟩ := q
      refine tV_look (f := fun x => x.truth >>= fun k => .ok (.d (.bl (!k)))) s q fun x F2 H2 v s2 _ l1 q => ?_
      obtain ⟨k, e1, q⟩ := RH.got (RH.bind q) (truth_er x)
      exact ⟨k, truth_ok s2.fh l1 e1, q F2 H2 _ (Grow.refl s2.fh) (show Rp X.K F2 (.bl (!k)) (.bl (!k)) from rp_bl)⟩
    · obtain ⟨B, F, S, s, q⟩ := q
      refine ⟨B, F, S, s, ?_⟩
      rw [evT_nt] at q
      exact RH.imp (RH.bind q) (fun k _ q F' H' gr => q F' H' gr) fun _ _ z => z
  | _ => exact noF h
theorem k_ev_cmp {o : COp} {a : Ex} {b : Ex} (i_a : SndP a) (i_b : SndP b) : SndP (.cmp o a b) := by
  intro c X g E e hx h
  cases e with
  | Compare l ops rs pos =>
    match ops, rs, h with
    | [op], [r], h =>
      obtain ⟨h1, q2⟩ := bandE h
      obtain ⟨h2, q3⟩ := bandE q2
      obtain ⟨h3, h4⟩ := bandE q3
      have e1 : op = o.op := of_decide_eq_true h1
      subst e1
      have pa := pe_lk hx h2 (i_a.go hx h2).v
      have pb := pe_lk hx h3 (i_b.go hx h3).v
      have wk : ∀ σ H Q, tV X.K g E (.cmp o a b) σ H Q → tOp (rC X.K o) (tL X.K g E a) (tL X.K g E b) σ H Q := fun σ H Q q => by
        obtain ⟨B, F, S, s, q⟩ := q
        refine tV_bin (f := fun x y => cmpD o x y >>= fun c => .ok (.d (.bl c))) s q fun x y F2 H2 v w s2 _ l1 l2 q => ?_
        exact cmp_end (Q := Q) s2.fh l1 l2 q fun b q => fin_b s2.fh q
      exact ⟨PE.weak (pe_cmpR (op_cmp o hx.hu) pa pb (notE h4)) wk, PT.weak (pt_cmpR (op_cmp o hx.hu) pa pb (notE h4)) fun σ H Q q => wk σ H _ (tTest_of (fun S => evL_cmp) (fun S val => cmp_bl) q), fun _ _ _ z => nomatch z⟩
    | [], _, h => exact noF h
    | [_], [], h => exact noF h
    | [_], _ :: _ :: _, h => exact noF h
    | _ :: _ :: _, [], h => exact noF h
    | _ :: _ :: _, _ :: _, h => exact noF h
  | _ => exact noF h
theorem k_ev_chn {o : COp} {p : COp} {a : Ex} {b : Ex} {d : Ex} (i_a : SndP a) (i_b : SndP b) (i_d : SndP d) : SndP (.chn o p a b d) := by
  intro c X g E e hx h
  cases e with
  | Compare l ops rs pos =>
    match ops, rs, h with
    | [op, op'], [r, r'], h =>
      obtain ⟨h1, q2⟩ := bandE h
      obtain ⟨h1', q3⟩ := bandE q2
      obtain ⟨h2, q4⟩ := bandE q3
      obtain ⟨h3, q5⟩ := bandE q4
      obtain ⟨h4, h5⟩ := bandE q5
      have e1 : op = o.op := of_decide_eq_true h1
      have e2 : op' = p.op := of_decide_eq_true h1'
      subst e1 e2
      have pa := pe_lk hx h2 (i_a.go hx h2).v
      have pb := pe_lk hx h3 (i_b.go hx h3).v
      have pd := pe_lk hx h4 (i_d.go hx h4).v
      have wk : ∀ σ H Q, tV X.K g E (.chn o p a b d) σ H Q → tChain (rC X.K o) (rC X.K p) (tL X.K g E a) (tL X.K g E b) (tL X.K g E d) σ H Q := fun σ H Q q => by
        obtain ⟨B, F, S, s, q⟩ := q
        refine tV_look (f := fun x => evL g.Γ b S >>= fun y => cmpD o x y >>= fun k => if k then evL g.Γ d S >>= fun z => cmpD p y z >>= fun l => .ok (.d (.bl l)) else .ok (.d (.bl false))) s q fun x F1 H1 v s1 g1 l1 q => ?_
        refine tV_look (f := fun y => cmpD o x y >>= fun k => if k then evL g.Γ d S >>= fun z => cmpD p y z >>= fun l => .ok (.d (.bl l)) else .ok (.d (.bl false))) s1 q fun y F2 H2 w s2 g2 l2 q => ?_
        refine cmp_end (f := fun k => if k then evL g.Γ d S >>= fun z => cmpD p y z >>= fun l => .ok (.d (.bl l)) else .ok (.d (.bl false))) s2.fh (l1.grow g2) l2 q fun k q => ?_
        refine ⟨k, rfl, ?_⟩
        cases k with
        | false =>
          rw [if_neg Bool.false_ne_true] at q
          refine iteF ?_
          exact fin_b s2.fh q
        | true =>
          rw [if_pos rfl] at q
          refine iteT ?_
          refine tV_look (f := fun z => cmpD p y z >>= fun l => .ok (.d (.bl l))) s2 q fun z F3 H3 w' s3 g3 l3 q => ?_
          exact cmp_end s3.fh (l2.grow g3) l3 q fun k q => fin_b s3.fh q
      exact ⟨PE.weak (pe_chain (op_cmp o hx.hu) (op_cmp p hx.hu) pa pb pd (notE h5)) wk, PT.weak (pt_chain (op_cmp o hx.hu) (op_cmp p hx.hu) pa pb pd (notE h5)) fun σ H Q q => wk σ H _ (tTest_of (fun S => evL_chn) (fun S val => chn_bl) q), fun _ _ _ z => nomatch z⟩
    | [], _, h => exact noF h
    | [_], [], h => exact noF h
    | [_], _ :: _, h => exact noF h
    | [_, _], [], h => exact noF h
    | [_, _], [_], h => exact noF h
    | [_, _], _ :: _ :: _ :: _, h => exact noF h
    | _ :: _ :: _ :: _, [], h => exact noF h
    | _ :: _ :: _ :: _, _ :: _, h => exact noF h
  | _ => exact noF h
theorem k_ev_and {a : Ex} {b : Ex} (i_a : SndP a) (i_b : SndP b) : SndP (.and a b) := by
  intro c X g E e hx h
  cases e with
  | BoolOp op vs pos =>
    match vs, h with
    | l :: r :: rest, h =>
      obtain ⟨h1, h2⟩ := bandE h
      obtain ⟨h2, h3⟩ := bandE h2
      have e1 : op = .And := of_decide_eq_true h1
      subst e1
      have ia := i_a.go hx h2
      have w : PW X (.BoolOp .And (l :: r :: rest) pos) (tT X.K g E (.and a b)) := by
        refine PW.weak (pw_and ia.t (row_andW h3 fun e he => i_b.go hx he)) fun σ H Q q => ?_
        obtain ⟨B, F, S, s, q⟩ := q
        replace q := evT_and q
        refine ⟨B, F, S, s, RH.imp (RH.bind q) (fun k _ q F1 H1 g1 => ?_) fun _ _ z => z⟩
        cases k with
        | true =>
          rw [if_pos rfl] at q
          refine iteT ⟨B, F1, S, s.grow g1, RH.imp q (fun k _ q F2 H2 g2 => q F2 H2 (g1.trans g2)) fun _ _ z => ErW.same g1.h z⟩
        | false =>
          rw [if_neg Bool.false_ne_true] at q
          exact iteF (q F1 H1 g1)
      refine ⟨PE.weak (pe_andT ia.v (row_and h3 fun e he => (i_b.go hx he).v)) fun σ H Q q => ?_, w.pt, fun o vs' p z => by cases z; exact w⟩
      obtain ⟨B, F, S, s, q⟩ := q
      have q : RH (ev g.Γ a S >>= fun v => v.D.truth >>= fun k => if k then ev g.Γ b S else .ok v) (fun val => ∀ F' H' v, Grow F F' H H' → VR X.K F' H H' val v → Q v H') (ErW g E H) := q
      refine ⟨B, F, S, s, RH.imp (RH.bind q) (fun val _ q F1 H1 v g1 r1 => ?_) fun _ _ z => z⟩
      obtain ⟨k, e1, q⟩ := RH.got (RH.bind q) (truth_er _)
      refine ⟨k, truth_ok g1.fh (r1.look g1.fh) e1, ?_⟩
      cases k with
      | true =>
        rw [if_pos rfl] at q
        refine iteT ⟨B, F1, S, s.grow g1, RH.imp q (fun val _ q F2 H2 w g2 r2 => q F2 H2 w (g1.trans g2) (r2.back g1.h)) fun _ _ z => ErW.same g1.h z⟩
      | false =>
        rw [if_neg Bool.false_ne_true] at q
        exact iteF (q F1 H1 v g1 r1)
    | [], h => exact noF h
    | [_], h => exact noF h
  | _ => exact noF h
theorem k_ev_or {a : Ex} {b : Ex} (i_a : SndP a) (i_b : SndP b) : SndP (.or a b) := by
  intro c X g E e hx h
  cases e with
  | BoolOp op vs pos =>
    match vs, h with
    | l :: r :: rest, h =>
      obtain ⟨h1, h2⟩ := bandE h
      obtain ⟨h2, h3⟩ := bandE h2
      have e1 : op = .Or := of_decide_eq_true h1
      subst e1
      have ia := i_a.go hx h2
      have w : PW X (.BoolOp .Or (l :: r :: rest) pos) (tT X.K g E (.or a b)) := by
        refine PW.weak (pw_or ia.t (row_orW h3 fun e he => i_b.go hx he)) fun σ H Q q => ?_
        obtain ⟨B, F, S, s, q⟩ := q
        replace q := evT_or q
        refine ⟨B, F, S, s, RH.imp (RH.bind q) (fun k _ q F1 H1 g1 => ?_) fun _ _ z => z⟩
        cases k with
        | false =>
          rw [if_neg Bool.false_ne_true] at q
          refine iteF ⟨B, F1, S, s.grow g1, RH.imp q (fun k _ q F2 H2 g2 => q F2 H2 (g1.trans g2)) fun _ _ z => ErW.same g1.h z⟩
        | true =>
          rw [if_pos rfl] at q
          exact iteT (q F1 H1 g1)
      refine ⟨PE.weak (pe_orT ia.v (row_or h3 fun e he => (i_b.go hx he).v)) fun σ H Q q => ?_, w.pt, fun o vs' p z => by cases z; exact w⟩
      obtain ⟨B, F, S, s, q⟩ := q
      have q : RH (ev g.Γ a S >>= fun v => v.D.truth >>= fun k => if k then .ok v else ev g.Γ b S) (fun val => ∀ F' H' v, Grow F F' H H' → VR X.K F' H H' val v → Q v H') (ErW g E H) := q
      refine ⟨B, F, S, s, RH.imp (RH.bind q) (fun val _ q F1 H1 v g1 r1 => ?_) fun _ _ z => z⟩
      obtain ⟨k, e1, q⟩ := RH.got (RH.bind q) (truth_er _)
      refine ⟨k, truth_ok g1.fh (r1.look g1.fh) e1, ?_⟩
      cases k with
      | true =>
        rw [if_pos rfl] at q
        exact iteT (q F1 H1 v g1 r1)
      | false =>
        rw [if_neg Bool.false_ne_true] at q
        refine iteF ⟨B, F1, S, s.grow g1, RH.imp q (fun val _ q F2 H2 w g2 r2 => q F2 H2 w (g1.trans g2) (r2.back g1.h)) fun _ _ z => ErW.same g1.h z⟩
    | [], h => exact noF h
    | [_], h => exact noF h
  | _ => exact noF h
theorem k_ev_tup {es : Exs} (d_es : DsP es) : SndP (.tup es) := by
  intro c X g E e hx h
  cases e with
  | Tuple l k pos =>
    refine Snd.plain hx h rfl ?_
    refine PE.weak (pe_tup (d_es.go hx h)) fun σ H Q q => ?_
    obtain ⟨B, F, S, s, q⟩ := q
    have q : RH (evs g.Γ es S >>= fun xs => if xs.length ≤ LINE then R.ok (Val.d (.tup xs)) else R.bad) (fun val => ∀ F' H' v, Grow F F' H H' → VR X.K F' H H' val v → Q v H') (ErW g E H) := q
    refine ⟨B, F, S, s, RH.imp (RH.bind q) (fun xs _ q F1 H1 vs g1 r1 => ?_) fun _ _ z => z⟩
    by_cases hz : xs.length ≤ LINE
    · rw [if_pos hz] at q
      refine ⟨by rw [← r1.len, ← line_eq]; exact hz, fun p hp => ?_⟩
      refine q _ _ _ (g1.trans (Grow.newF (o := .tup vs) g1.fh hp)) ?_
      exact rp_tup upd_same (RpL.mono (same_upd (g1.fh.free hp)) _ _ r1)
    · rw [if_neg hz] at q
      exact q.elim
  | _ => exact noF h
theorem k_ev_lst {es : Exs} (d_es : DsP es) : SndP (.lst es) := by
  intro c X g E e hx h
  cases e with
  | List l pos =>
    refine Snd.plain hx h rfl ?_
    refine PE.weak (pe_lst (d_es.go hx h)) fun σ H Q q => ?_
    obtain ⟨B, F, S, s, q⟩ := q
    have q : RH (evs g.Γ es S >>= fun xs => if xs.length ≤ LINE then R.ok (Val.fr xs) else R.bad) (fun val => ∀ F' H' v, Grow F F' H H' → VR X.K F' H H' val v → Q v H') (ErW g E H) := q
    refine ⟨B, F, S, s, RH.imp (RH.bind q) (fun xs _ q F1 H1 vs g1 r1 => ?_) fun _ _ z => z⟩
    by_cases hz : xs.length ≤ LINE
    · rw [if_pos hz] at q
      refine ⟨by rw [← r1.len, ← line_eq]; exact hz, fun p hp => ?_⟩
      exact q _ _ _ (g1.trans (Grow.newH (o := .lst vs) g1.fh hp)) ⟨p, vs, rfl, g1.h.free hp, upd_same, g1.fh.free hp, r1⟩
    · rw [if_neg hz] at q
      exact q.elim
  | _ => exact noF h
theorem k_ev_sub {a : Ex} {i : Ex} (i_a : SndP a) (i_i : SndP i) : SndP (.sub a i) := by
  intro c X g E e hx h
  cases e with
  | Subscript l k pos =>
    obtain ⟨h1, h2⟩ := bandE h
    refine Snd.plain hx h rfl ?_
    refine PE.weak (pe_ix ix_all (pe_lk hx h1 (i_a.go hx h1).v) (pe_lk hx h2 (i_i.go hx h2).v) (plainIx h2)) fun σ H Q q => ?_
    obtain ⟨B, F, S, s, q⟩ := q
    refine tV_bin (f := fun x k => subD x k >>= fun y => .ok (.d y)) s q fun x y F2 H2 v w s2 _ l1 l2 q => ?_
    obtain ⟨z, e1, q⟩ := RH.got (RH.bind q) (subD_er x y)
    exact ⟨F2, x, y, z, s2.fh, l1, l2, e1, fun v r => q F2 H2 v (Grow.refl s2.fh) r⟩
  | _ => exact noF h
theorem k_ev_slc {a : Ex} {lo : Ex} {hi : Ex} (i_a : SndP a) (i_lo : SndP lo) (i_hi : SndP hi) : SndP (.slc a lo hi) := by
  intro c X g E e hx h
  cases e with
  | Subscript l k pos =>
    match k, h with
    | .Slice (some x) (some y) none p2, h =>
      obtain ⟨h1, h2⟩ := bandE h
      obtain ⟨h2, h3⟩ := bandE h2
      refine Snd.plain hx h rfl ?_
      refine PE.weak (pe_slice sl_all (pe_lk hx h1 (i_a.go hx h1).v) (po_some (pe_lk hx h2 (i_lo.go hx h2).v)) (po_some (pe_lk hx h3 (i_hi.go hx h3).v))) fun σ H Q q => ?_
      obtain ⟨B, F, S, s, q⟩ := q
      refine tV_look (f := fun x => evL g.Γ lo S >>= fun l => l.int? >>= fun i => evL g.Γ hi S >>= fun h => h.int? >>= fun j => slcD x (some i) (some j)) s q fun x F1 H1 v s1 g1 l1 q => ?_
      refine tV_look (f := fun l => l.int? >>= fun i => evL g.Γ hi S >>= fun h => h.int? >>= fun j => slcD x (some i) (some j)) s1 q fun y F2 H2 w s2 g2 l2 q => ?_
      obtain ⟨i, e1, q⟩ := RH.got (RH.bind q) (int_er y)
      obtain rfl := int_of e1
      refine ⟨i, lr_int l2, ?_⟩
      refine tV_look (f := fun h => h.int? >>= fun j => slcD x (some i) (some j)) s2 q fun z F3 H3 u s3 g3 l3 q => ?_
      obtain ⟨j, e1, q⟩ := RH.got (RH.bind q) (int_er z)
      obtain rfl := int_of e1
      refine ⟨j, lr_int l3, ?_⟩
      obtain ⟨val, e2, q⟩ := RH.got q (slcD_er x _ _)
      exact ⟨F3, x, val, s3.fh, (l1.grow g2).grow g3, e2, q⟩
    | .Slice none _ _ _, h => exact noF h
    | .Slice (some _) none _ _, h => exact noF h
    | .Slice (some _) (some _) (some _) _, h => exact noF h
    | .BoolOp .., h => exact noF h
    | .NamedExpr .., h => exact noF h
    | .BinOp .., h => exact noF h
    | .UnaryOp .., h => exact noF h
    | .Lambda .., h => exact noF h
    | .IfExp .., h => exact noF h
    | .Dict .., h => exact noF h
    | .Set .., h => exact noF h
    | .ListComp .., h => exact noF h
    | .SetComp .., h => exact noF h
    | .DictComp .., h => exact noF h
    | .GeneratorExp .., h => exact noF h
    | .Await .., h => exact noF h
    | .Yield .., h => exact noF h
    | .YieldFrom .., h => exact noF h
    | .Compare .., h => exact noF h
    | .Call .., h => exact noF h
    | .FormattedValue .., h => exact noF h
    | .JoinedStr .., h => exact noF h
    | .Constant .., h => exact noF h
    | .Attribute .., h => exact noF h
    | .Subscript .., h => exact noF h
    | .Starred .., h => exact noF h
    | .Name .., h => exact noF h
    | .List .., h => exact noF h
    | .Tuple .., h => exact noF h
  | _ => exact noF h
theorem k_ev_slcL {a : Ex} {lo : Ex} (i_a : SndP a) (i_lo : SndP lo) : SndP (.slcL a lo) := by
  intro c X g E e hx h
  cases e with
  | Subscript l k pos =>
    cases k with
    | Slice x y z p2 =>
      cases x with
      | none => cases y <;> cases z <;> exact noF h
      | some x =>
        cases y with
        | some _ => cases z <;> exact noF h
        | none =>
          cases z with
          | some _ => exact noF h
          | none =>
            obtain ⟨h1, h2⟩ := bandE h
            refine Snd.plain hx h rfl ?_
            refine PE.weak (pe_slice sl_all (pe_lk hx h1 (i_a.go hx h1).v) (po_some (pe_lk hx h2 (i_lo.go hx h2).v)) po_none) fun σ H Q q => ?_
            obtain ⟨B, F, S, s, q⟩ := q
            refine tV_look (f := fun x => evL g.Γ lo S >>= fun l => l.int? >>= fun i => slcD x (some i) none) s q fun x F1 H1 v s1 g1 l1 q => ?_
            refine tV_look (f := fun l => l.int? >>= fun i => slcD x (some i) none) s1 q fun y F2 H2 w s2 g2 l2 q => ?_
            obtain ⟨i, e1, q⟩ := RH.got (RH.bind q) (int_er y)
            obtain rfl := int_of e1
            refine ⟨i, lr_int l2, ?_⟩
            obtain ⟨val, e2, q⟩ := RH.got q (slcD_er x _ _)
            exact ⟨F2, x, val, s2.fh, l1.grow g2, e2, q⟩
    | _ => exact noF h
  | _ => exact noF h
theorem k_ev_slcH {a : Ex} {hi : Ex} (i_a : SndP a) (i_hi : SndP hi) : SndP (.slcH a hi) := by
  intro c X g E e hx h
  cases e with
  | Subscript l k pos =>
    cases k with
    | Slice x y z p2 =>
      cases x with
      | some _ => cases y <;> cases z <;> exact noF h
      | none =>
        cases y with
        | none => cases z <;> exact noF h
        | some y =>
          cases z with
          | some _ => exact noF h
          | none =>
            obtain ⟨h1, h2⟩ := bandE h
            refine Snd.plain hx h rfl ?_
            refine PE.weak (pe_slice sl_all (pe_lk hx h1 (i_a.go hx h1).v) po_none (po_some (pe_lk hx h2 (i_hi.go hx h2).v))) fun σ H Q q => ?_
            obtain ⟨B, F, S, s, q⟩ := q
            refine tV_look (f := fun x => evL g.Γ hi S >>= fun l => l.int? >>= fun i => slcD x none (some i)) s q fun x F1 H1 v s1 g1 l1 q => ?_
            refine tV_look (f := fun l => l.int? >>= fun i => slcD x none (some i)) s1 q fun y F2 H2 w s2 g2 l2 q => ?_
            obtain ⟨i, e1, q⟩ := RH.got (RH.bind q) (int_er y)
            obtain rfl := int_of e1
            refine ⟨i, lr_int l2, ?_⟩
            obtain ⟨val, e2, q⟩ := RH.got q (slcD_er x _ _)
            exact ⟨F2, x, val, s2.fh, l1.grow g2, e2, q⟩
    | _ => exact noF h
  | _ => exact noF h
theorem k_ev_call {f : String} {es : Exs} (j_es : AsP es) : SndP (.call f es) := by
  intro c X g E e hx h
  cases e with
  | Call fn l kw pos =>
    cases fn with
    | Name x p =>
      cases kw with
      | cons _ _ => exact noF h
      | nil =>
        obtain ⟨h1, h2⟩ := bandE h
        obtain ⟨h2, h3⟩ := bandE h2
        obtain ⟨h3, h4⟩ := bandE h3
        obtain ⟨k1, k2, k3⟩ := glo_of hx h2
        have e1 : x = Str.ofString f := of_decide_eq_true h1
        obtain ⟨a, fd, ps, k, dvs, ds, sp, hm, hk, hr, hb, hd, F, imp⟩ := (hx.fn f l.length h3).ex
        have hm2 : X.mg x = some (.ref a) := by rw [e1]; exact hm
        have fin : ∀ σ H Q, tV X.K g E (.call f es) σ H Q → tAs X.K g E es σ H fun vs H1 => vs.length = l.length → sp (vs ++ dvs) H1 Q E := fun σ H Q q => by
          obtain ⟨B, Fh, S, s, q⟩ := q
          have q : RH (evsL g.Γ es S >>= fun xs => g.Γ f xs >>= fun v => kept (anyOwn es S) v) (fun val => ∀ F' H' v, Grow Fh F' H H' → VR X.K F' H H' val v → Q v H') (ErW g E H) := q
          refine ⟨B, Fh, S, s, RH.imp (RH.bind q) (fun xs _ q F1 H1 vs g1 l1 r1 hl => ?_) fun _ _ z => z⟩
          refine imp vs H1 Q E hl ?_
          refine call_end (g := g) (E := E) g1.fh l1 r1 (RH.imp q (fun val _ q F2 H2 w g2 r2 => q F2 H2 w (g1.trans g2) (r2.back g1.h)) fun _ _ z => ErW.same g1.h z)
        cases es with
        | nil =>
          cases l with
          | cons _ _ => exact noF h4
          | nil =>
            refine Snd.plain hx h rfl ?_
            refine PE.weak (pe_call0 F hr k1 hm2 hk hb hd hx.ps k2) fun σ H Q q => ?_
            obtain ⟨B, Fh, S, s, q⟩ := fin σ H Q q
            have q2 := q Fh H [] (Grow.refl s.fh) rfl (fun _ => RpL.nil) rfl
            exact q2
        | cons e r =>
          cases l with
          | nil => exact noF h4
          | cons x0 l =>
            have st := embs_stars h4
            have h5 : isStar x0 = false := by
              rw [List.all_cons] at st
              exact notE (bandE st).1
            have pa := j_es.go hx h4
            refine Snd.plain hx h rfl ?_
            refine PE.weak (pe_call F hr k1 hm2 hk hb hd hx.ps pa k2 (star_of h5) (plain_back (e := x0) (by rw [List.all_cons] at st; exact (bandE st).2))) fun σ H Q q => ?_
            obtain ⟨B, Fh, S, s, q⟩ := fin σ H Q q
            refine ⟨B, Fh, S, s, RH.imp q (fun xs e2 q F1 H1 vs g1 l1 r1 => q F1 H1 vs g1 l1 r1 ?_) fun _ _ z => z⟩
            rw [← l1.len]
            exact evsL_len h4 e2
    | _ => exact noF h
  | _ => exact noF h
theorem k_ev_bi {b : Bi} {es : Exs} (j_es : AsP es) : SndP (.bi b es) := by
  intro c X g E e hx h
  cases e with
  | Call fn l kw pos =>
    cases fn with
    | Name x p =>
      cases kw with
      | cons _ _ => exact noF h
      | nil =>
        obtain ⟨h1, h2⟩ := bandE h
        obtain ⟨h2, h3⟩ := bandE h2
        obtain ⟨h3, h4⟩ := bandE h3
        obtain ⟨h4, h5⟩ := bandE h4
        obtain ⟨k1, k2, k3⟩ := glo_of hx h2
        have e1 : x = b.name := of_decide_eq_true h1
        have hm := hx.fr x h3
        have hv : bootBuiltins x = some b.fn := by rw [e1]; exact bi_boot b
        cases es with
        | nil =>
          cases l with
          | nil => exact noF h4
          | cons _ _ => exact noF h5
        | cons e r =>
          cases l with
          | nil => exact noF h5
          | cons x0 l =>
            have st := embs_stars h5
            have h6 : isStar x0 = false := by
              rw [List.all_cons] at st
              exact notE (bandE st).1
            have pa := j_es.go hx h5
            have fin : ∀ σ H Q, tV X.K g E (.bi b (.cons e r)) σ H Q → tCB (rBi X.K b) (tAs X.K g E (.cons e r)) σ H Q := fun σ H Q q => by
              obtain ⟨B, Fh, S, s, q⟩ := q
              have q : RH (evsL g.Γ (.cons e r) S >>= fun xs => biD b xs >>= fun v => .ok v) (fun val => ∀ F' H' v, Grow Fh F' H H' → VR X.K F' H H' val v → Q v H') (ErW g E H) := q
              refine ⟨B, Fh, S, s, RH.imp (RH.bind q) (fun xs _ q F1 H1 vs g1 l1 _ => ?_) fun _ _ z => z⟩
              obtain ⟨val, e1, q⟩ := RH.got (RH.bind q) (biD_er b xs)
              exact ⟨F1, xs, val, g1.fh, l1, e1, fun F2 H2 w g2 r2 => q F2 H2 w (g1.trans g2) (r2.back g1.h)⟩
            have pb := plain_back (e := x0) (pos := pos) (env := X.env) (by rw [List.all_cons] at st; exact (bandE st).2)
            have cr := cr_bi b hx.calm
            refine Snd.plain hx h rfl ?_
            refine PE.weak ?_ fin
            cases b <;> first
              | exact pe_callB cr k1 hm hv pa k3 k2 (star_of h6) pb
              | exact pe_callTy cr k1 hm hv pa k3 k2 (star_of h6) pb
    | _ => exact noF h
  | _ => exact noF h
theorem k_ev_isa {a : Ex} {t : String} (i_a : SndP a) : SndP (.isa a t) := by
  intro c X g E e hx h
  cases e with
  | Call fn l kw pos =>
    cases fn with
    | Name x p =>
      match l, kw, h with
      | [l, .Name y p2], [], h =>
        obtain ⟨h1, h2⟩ := bandE h
        obtain ⟨h2, h3⟩ := bandE h2
        obtain ⟨h3, h4⟩ := bandE h3
        obtain ⟨h4, h5⟩ := bandE h4
        obtain ⟨h5, h6⟩ := bandE h5
        obtain ⟨h6, h7⟩ := bandE h6
        obtain ⟨h7, h8⟩ := bandE h7
        have e1 : x = ("isinstance" : Str) := of_decide_eq_true h1
        have e2 : y = Str.ofString t := of_decide_eq_true h2
        have ht : t ∈ isaT := of_decide_eq_true h7
        obtain ⟨k1, k2, k3⟩ := glo_of hx h3
        obtain ⟨j1, j2, j3⟩ := glo_of hx h4
        have hm := hx.fr x h5
        have hm2 := hx.fr y h6
        have hv : bootBuiltins x = some (.builtin "isinstance") := by rw [e1]; exact boot_isinstance
        have hv2 : bootBuiltins y = some (.type t) := by rw [e2]; exact isi_boot ht
        have h9 : isStar l = false := by
          cases l <;> first | rfl | (cases a <;> exact noF h8)
        refine Snd.plain hx h rfl ?_
        refine PE.weak (pe_callB call_isi k1 hm hv (pa_cons (pe_lk hx h8 (i_a.go hx h8).v) (pa_cons (pe_bltn (v := .ty t) j1 hm2 hv2 rfl j3 j2) pa_nil rfl) (star_of h9)) k3 k2 (star_of h9) rfl) fun σ H Q q => ?_
        obtain ⟨B, F, S, s, q⟩ := q
        refine tV_look (f := fun x => isaD x t >>= fun k => .ok (.d (.bl k))) s q fun x F2 H2 v s2 _ l1 q => ?_
        obtain ⟨k, e3, q⟩ := RH.got (RH.bind q) (isaD_er x t)
        have e3 : (match tyD x with | some u => if t ∈ isaT then R.ok (u == t || (u == "bool" && t == "int")) else R.bad | none => R.bad) = .ok k := e3
        cases e4 : tyD x with
        | none => rw [e4] at e3; cases e3
        | some u =>
          rw [e4] at e3
          simp only [if_pos ht] at e3
          cases e3
          obtain ⟨ty, hu⟩ := ty_of s2.fh l1 e4
          exact ⟨v, .ty t, .type u, .type t, _, rfl, .ty t, ty, kit_of_isa hu ht rfl, fin_b s2.fh q⟩
      | [], _, h => exact noF h
      | [_], _, h => exact noF h
      | _ :: y :: _ :: _, _, h => cases y <;> exact noF h
      | [_, .Name _ _], _ :: _, h => exact noF h
      | [_, .BoolOp ..], _, h => exact noF h
      | [_, .NamedExpr ..], _, h => exact noF h
      | [_, .BinOp ..], _, h => exact noF h
      | [_, .UnaryOp ..], _, h => exact noF h
      | [_, .Lambda ..], _, h => exact noF h
      | [_, .IfExp ..], _, h => exact noF h
      | [_, .Dict ..], _, h => exact noF h
      | [_, .Set ..], _, h => exact noF h
      | [_, .ListComp ..], _, h => exact noF h
      | [_, .SetComp ..], _, h => exact noF h
      | [_, .DictComp ..], _, h => exact noF h
      | [_, .GeneratorExp ..], _, h => exact noF h
      | [_, .Await ..], _, h => exact noF h
      | [_, .Yield ..], _, h => exact noF h
      | [_, .YieldFrom ..], _, h => exact noF h
      | [_, .Compare ..], _, h => exact noF h
      | [_, .Call ..], _, h => exact noF h
      | [_, .FormattedValue ..], _, h => exact noF h
      | [_, .JoinedStr ..], _, h => exact noF h
      | [_, .Constant ..], _, h => exact noF h
      | [_, .Attribute ..], _, h => exact noF h
      | [_, .Subscript ..], _, h => exact noF h
      | [_, .Starred ..], _, h => exact noF h
      | [_, .List ..], _, h => exact noF h
      | [_, .Tuple ..], _, h => exact noF h
      | [_, .Slice ..], _, h => exact noF h
    | _ => exact noF h
  | _ => exact noF h
theorem async0 {own : List (Str × Nat)} {tg : Tg} {it : It} {d e : Ex} {l t i : Expr} {ifs : List Expr} {n : Int} {scope : Scope} {pos : Pos} (h : emb c (.lc own tg it d e) (.ListComp l [⟨t, i, ifs, n⟩] scope pos) = true) : n = 0 := by
  by_cases hn : n = 0
  · exact hn
  · unfold emb at h
    split at h
    · rename_i e1
      cases e1
      exact absurd rfl hn
    · cases h
theorem comp2 {own : List (Str × Nat)} {tg : Tg} {it : It} {d e : Ex} {l : Expr} {a b : Comprehension} {r : List Comprehension} {scope : Scope} {pos : Pos} (h : emb c (.lc own tg it d e) (.ListComp l (a :: b :: r) scope pos) = true) : False := by
  unfold emb at h
  split at h
  · rename_i e1
    cases e1
  · cases h
theorem k_ev_lc {own : List (Str × Nat)} {tg : Tg} {it : It} {d : Ex} {e : Ex} (i_d : SndP d) (t_it : ItP it) (i_e : SndP e) : SndP (.lc own tg it d e) := by
  intro c X g E ex hx h
  cases ex with
  | ListComp l gens scope pos =>
    match gens, h with
    | [⟨t, i, ifs, n⟩], h =>
      obtain rfl := async0 h
      obtain ⟨h1, h2⟩ := bandE h
      obtain ⟨h2', h2⟩ := bandE h2
      obtain ⟨h2, h3⟩ := bandE h2
      obtain ⟨h2, hT⟩ := bandE h2
      obtain ⟨h3, h4⟩ := bandE h3
      obtain ⟨h4, h5⟩ := bandE h4
      have ok : BlkOk X.N X.env.scope scope own := by rw [hx.n, hx.sc]; exact blkOk_by h1
      have ht : ∀ (s : Shared) (H : Hp) (C : Addr) (cl : List (Str × Addr)) (fp : List Addr), PTs (X.blk s H scope (compEnvC scope cl C X.env) fp) ifs (tT X.K g E0 d) := fun s H C cl fp => by
        match ifs, h5 with
        | [], h5 =>
          have e1 : d = .cst (.bl true) := by
            match d, h5 with
            | .cst (.bl true), _ => rfl
          subst e1
          refine PTs.weak pts_nil fun σ H Q q => ?_
          obtain ⟨B, F, S, s, q⟩ := q
          exact q F H (Grow.refl s.fh)
        | [z], h5 => exact pts_one (i_d.go (hx.blk ok s H C cl fp) h5).t
      refine Snd.plain hx h rfl ?_
      refine PE.weak (pe_lc hx.calm hx.nd (t_it.go hx h2 hT) ok (fun s H C cl fp => pg_tg (hx.blk ok s H C cl fp) h3) ht (fun s H C cl fp => (i_e.go (hx.blk ok s H C cl fp) h4).v) (embI_noset h2)) fun σ H Q q => lc_ok h2' q
    | [], h => exact noF h
    | _ :: _ :: _, h => exact (comp2 h).elim
  | _ => exact noF h
theorem str?_er (d : D) (c : String) (fs : List D) : d.str? ≠ .er c fs := by cases d <;> first | exact ok_ne | exact bad_ne
theorem str?_ok {d : D} {s : Tx} (h : d.str? = .ok s) : d = .str s := by
  cases d <;> first | (cases h; rfl) | (cases h)
theorem m1D_er (m : M1) (s : Tx) (d : D) (c : String) (fs : List D) : m1D m s d ≠ .er c fs := by
  cases m <;> cases d <;> first | exact bad_ne | exact ite_er ok_ne | exact mat_er fun _ => ite_er ok_ne
theorem plainO_ok {o : Expr} {nm : Str} {env : Env} (h : plainO o = true) : attributeBase o nm env (eval o env) = eval o env := by
  cases o with
  | Name _ _ => rfl
  | Constant _ _ _ => rfl
  | Subscript _ _ _ => rfl
  | Call fn l kw pos =>
    cases l with
    | nil => exact noF h
    | cons x r => cases fn <;> rfl
  | _ => exact noF h
theorem k_ev_m1 {m : M1} {a : Ex} {b : Ex} (i_a : SndP a) (i_b : SndP b) : SndP (.m1 m a b) := by
  intro c X g E e hx h
  unfold emb at h
  split at h
  · rename_i o n apos l cpos
    obtain ⟨h1, q1⟩ := bandE h
    obtain ⟨h2, q2⟩ := bandE q1
    obtain ⟨h3, q3⟩ := bandE q2
    obtain ⟨h4, q4⟩ := bandE q3
    obtain ⟨h5, h6⟩ := bandE q4
    have e1 : n = m.name := of_decide_eq_true h1
    subst e1
    have pa := pe_lk hx h5 (i_a.go hx h5).v
    have pb := pe_lk hx h6 (i_b.go hx h6).v
    have hb : ∀ nm, attributeBase o nm X.env (eval o X.env) = eval o X.env := fun nm => plainO_ok h2
    have pm : PE X (.Call (.Attribute o m.name apos) [l] [] cpos) (tM1 (rM1 X.K m) (tL X.K g E a) (tL X.K g E b)) := by
      cases m with
      | split => exact pe_m1 PySem.F.slot_str_split PySem.F.type_str_split mt_m1split pa pb (star_of (notE h4)) (hb _) h3
      | join => exact pe_m1 PySem.F.slot_str_join PySem.F.type_str_join mt_m1join pa pb (star_of (notE h4)) (hb _) h3
    have hh : emb c (.m1 m a b) (.Call (.Attribute o m.name apos) [l] [] cpos) = true := by
      rw [emb]
      exact h
    refine Snd.plain hx hh rfl (PE.weak pm fun σ H Q q => ?_)
    obtain ⟨B, F, S, s, q⟩ := q
    refine tV_look (f := fun x => x.str? >>= fun s => evL g.Γ b S >>= fun y => m1D m s y) s q fun x F1 H1 v s1 g1 l1 q => ?_
    obtain ⟨t, e1, q⟩ := RH.got (RH.bind q) (str?_er x)
    obtain rfl := str?_ok e1
    refine ⟨⟨_, lr_str l1⟩, ?_⟩
    refine tV_look (f := fun y => m1D m t y) s1 q fun y F2 H2 w s2 g2 l2 q => ?_
    obtain ⟨val, e2, q⟩ := RH.got q (m1D_er m t y)
    exact ⟨F2, t, y, w, val, lr_str l1, rfl, s2.fh, l2, e2, q⟩
  · cases h
theorem fldD_er (cs : List String) (n : String) (d : D) (c : String) (fs : List D) : fldD cs n d ≠ .er c fs := by
  cases d <;> first | exact bad_ne | exact ite_er (mat_er fun _ => ok_ne)
theorem clsOf_er (cs : List String) (n : String) (d : D) (c : String) (fs : List D) : clsOf cs n d ≠ .er c fs := by
  cases d <;> first | exact bad_ne | exact ite_er ok_ne
theorem ofS_inj {a b : String} (h : Str.ofString a = Str.ofString b) : a = b := by
  have e := congrArg (fun x : Str => x.cps.toList) h
  simp only [PyProof.Rows.signs_ofString] at e
  have e2 : a.toList = b.toList := (List.map_inj_right (fun x y h => Char.ext (UInt32.toNat_inj.mp h))).mp e
  first | exact String.toList_inj.mp e2 | exact String.ext e2 | exact String.ext_iff.mpr e2
theorem zip_look {K : PySem.W.Frag} {F : Hp} {n : String} {y : D} : ∀ {ns : List String} {xs : List D} {vs : List V}, RpL K F xs vs → (ns.zip xs).lookup n = some y → ∃ v, ((ns.map Str.ofString).zip vs).lookup (Str.ofString n) = some v ∧ Rp K F y v
  | [], _, _, _, e => by cases e
  | _ :: _, [], _, _, e => by cases e
  | m :: ns, x :: xs, vs, r, e => by
    rw [RpL] at r
    obtain ⟨v, r', rfl, h1, h2⟩ := r
    rw [List.zip_cons_cons, List.lookup_cons] at e
    rw [List.map_cons, List.zip_cons_cons, List.lookup_cons]
    by_cases hm : n = m
    · subst hm
      rw [beq_self_eq_true] at e ⊢
      cases e
      exact ⟨v, rfl, h1⟩
    · have b1 : (n == m) = false := by simpa using hm
      have b2 : (Str.ofString n == Str.ofString m) = false := by
        rw [beq_eq_false_iff_ne]
        exact fun z => hm (ofS_inj z)
      rw [b1] at e
      rw [b2]
      exact zip_look h2 e
theorem zip_none {n : String} : ∀ {ns : List String} {vs : List V}, n ∉ ns → ((ns.map Str.ofString).zip vs).lookup (Str.ofString n) = none
  | [], _, _ => rfl
  | _ :: _, [], _ => rfl
  | m :: ns, v :: vs, h => by
    rw [List.map_cons, List.zip_cons_cons, List.lookup_cons]
    have b2 : (Str.ofString n == Str.ofString m) = false := by
      rw [beq_eq_false_iff_ne]
      exact fun z => h (by rw [ofS_inj z]; exact List.mem_cons_self ..)
    rw [b2]
    exact zip_none fun z => h (List.mem_cons_of_mem _ z)
theorem fld_ok {cs : List String} {n : String} {d y : D} (h : fldD cs n d = .ok y) : ∃ c ns xs, d = .ins c ns xs ∧ c ∈ cs ∧ (ns.zip xs).lookup n = some y := by
  cases d with
  | ins c ns xs =>
    have h : (if c ∈ cs then optR ((ns.zip xs).lookup n) R.ok else .bad) = .ok y := h
    by_cases hc : c ∈ cs
    · rw [if_pos hc] at h
      cases e : (ns.zip xs).lookup n with
      | none => rw [e] at h; cases h
      | some z => rw [e] at h; cases h; exact ⟨c, ns, xs, rfl, hc, e⟩
    · rw [if_neg hc] at h; cases h
  | _ => cases h
theorem cls_ok {cs : List String} {m : String} {d : D} {c : String} (h : clsOf cs m d = .ok c) : ∃ ns xs, d = .ins c ns xs ∧ c ∈ cs ∧ m ∉ ns := by
  cases d with
  | ins c' ns xs =>
    have h : (if c' ∈ cs ∧ m ∉ ns then R.ok c' else .bad) = .ok c := h
    by_cases hc : c' ∈ cs ∧ m ∉ ns
    · rw [if_pos hc] at h; cases h; exact ⟨ns, xs, rfl, hc.1, hc.2⟩
    · rw [if_neg hc] at h; cases h
  | _ => cases h
theorem lr_ins {K : PySem.W.Frag} {F H : Hp} {c : String} {ns : List String} {xs : List D} {v : V} (sm : Same F H) (h : LR K F H (.ins c ns xs) v) : ∃ a dx fsV vs, v = .ref a ∧ H a = some (.ins (He.ga K (Str.ofString c)) dx fsV) ∧ RpL K F xs vs ∧ ns.length = xs.length ∧ ∀ n : Str, fsV.lookup n = ((ns.map Str.ofString).zip vs).lookup n := by
  have h : Rp K F (.ins c ns xs) v := h
  rw [Rp] at h
  obtain ⟨a, dx, fsV, vs, e1, e2, e3⟩ := h
  exact ⟨a, dx, fsV, vs, e1, sm _ _ e2, e3⟩
theorem noCall_base {o : Expr} {f : Str} {env : Env} (h : noCall o = true) : attributeBase o f env (eval o env) = eval o env := by
  cases o <;> first | rfl | exact noF h
theorem k_ev_fld {cs : List String} {a : Ex} {n : String} (i_a : SndP a) : SndP (.fld cs a n) := by
  intro c X g E e hx h
  cases e with
  | Attribute o f pos =>
    obtain ⟨h1, q1⟩ := bandE h
    obtain ⟨h2, q2⟩ := bandE q1
    obtain ⟨h3, h4⟩ := bandE q2
    have e1 : f = Str.ofString n := of_decide_eq_true h1
    subst e1
    refine Snd.plain hx h rfl (PE.weak (pe_fld (pe_lk hx h4 (i_a.go hx h4).v) (noCall_base h2)) fun σ H Q q => ?_)
    obtain ⟨B, F, S, s, q⟩ := q
    refine tV_look (f := fun x => fldD cs n x >>= fun y => .ok (.d y)) s q fun x F1 H1 v s1 g1 l1 q => ?_
    obtain ⟨y, e1, q5⟩ := RH.got (RH.bind q) (fldD_er cs n x)
    obtain ⟨z, ns, xs, rfl, hz, lk⟩ := fld_ok e1
    obtain ⟨p, dx, fsV, vs, rfl, hp, r, _, hl⟩ := lr_ins s1.fh l1
    obtain ⟨cl, na⟩ := hx.at_ z n (List.all_eq_true.mp h3 z hz)
    obtain ⟨w, e2, rw'⟩ := zip_look r lk
    exact ⟨p, _, dx, fsV, w, rfl, hp, cl, na, by rw [hl]; exact e2, q5 F1 H1 w (Grow.refl s1.fh) rw'⟩
  | _ => exact noF h
theorem boot_ve : bootBuiltins "ValueError" = some (.type "ValueError") := PyProof.Rows.Boot.«ValueError»
theorem isxD_er (cs : List String) (n : String) (d : D) (c : String) (fs : List D) : isxD cs n d ≠ .er c fs := by cases d <;> first | exact bad_ne | (unfold isxD; exact ite_er ok_ne)
theorem isx_ok {cs : List String} {n : String} {d : D} {b : Bool} (h : isxD cs n d = .ok b) : ∃ c ns xs, d = .exc c ns xs ∧ c ∈ cs ∧ b = FvX.isxB c n := by
  cases d with
  | exc c ns xs =>
    have h : (if c ∈ cs then R.ok (FvX.isxB c n) else .bad) = .ok b := h
    by_cases hc : c ∈ cs
    · rw [if_pos hc] at h
      cases h
      exact ⟨c, ns, xs, rfl, hc, rfl⟩
    · rw [if_neg hc] at h; cases h
  | _ => cases h
theorem xflD_er (cs : List String) (n : String) (d : D) (c : String) (fs : List D) : xflD cs n d ≠ .er c fs := by
  cases d <;> first | exact bad_ne | skip
  rename_i c' ns xs
  show (if c' ∈ cs ∧ n ∈ FvX.xNs c' then optR ((ns.zip xs).lookup n) R.ok else .bad) ≠ _
  refine ite_er ?_
  cases (ns.zip xs).lookup n <;> first | exact ok_ne | exact bad_ne
theorem xfl_ok {cs : List String} {n : String} {d y : D} (h : xflD cs n d = .ok y) : ∃ c ns xs, d = .exc c ns xs ∧ c ∈ cs ∧ n ∈ FvX.xNs c ∧ (ns.zip xs).lookup n = some y := by
  cases d with
  | exc c ns xs =>
    have h : (if c ∈ cs ∧ n ∈ FvX.xNs c then optR ((ns.zip xs).lookup n) R.ok else .bad) = .ok y := h
    by_cases hc : c ∈ cs ∧ n ∈ FvX.xNs c
    · rw [if_pos hc] at h
      cases e : (ns.zip xs).lookup n with
      | none => rw [e] at h; cases h
      | some z => rw [e] at h; cases h; exact ⟨c, ns, xs, rfl, hc.1, hc.2, e⟩
    · rw [if_neg hc] at h; cases h
  | _ => cases h
theorem lr_exc {K : PySem.W.Frag} {F H : Hp} {c : String} {ns : List String} {xs : List D} {v : V} (sm : Same F H) (h : LR K F H (.exc c ns xs) v) : ∃ a d fsV vs, v = .ref a ∧ H a = some (FvX.exk a (.ref (He.ga K (Str.ofString c))) (some d)) ∧ H d = some (.xd fsV) ∧ RpL K F xs vs ∧ ns.length = xs.length ∧ ∀ n : Str, fsV.lookup n = ((ns.map Str.ofString).zip vs).lookup n := by
  have h : Rp K F (.exc c ns xs) v := h
  rw [Rp] at h
  obtain ⟨a, d, fsV, vs, e1, e2, e3, e4⟩ := h
  exact ⟨a, d, fsV, vs, e1, sm _ _ e2, sm _ _ e3, e4⟩
theorem xs_ne {cs xs : List String} (h : (!cs.isEmpty && cs.all fun z => xs.contains z) = true) : xs ≠ [] ∧ ∀ z ∈ cs, z ∈ xs := by
  obtain ⟨h1, h2⟩ := Bool.and_eq_true_iff.mp h
  have a : ∀ z ∈ cs, z ∈ xs := fun z hz => by
    have := List.all_eq_true.mp h2 z hz
    simpa using this
  refine ⟨fun e => ?_, a⟩
  cases cs with
  | nil => cases h1
  | cons z r =>
    have := a z (List.mem_cons_self ..)
    rw [e] at this
    cases this
theorem pe_xn {X : Cx} {c : Ck} {g : Gv} {E : XK} {y : Str} {p : Pos} {n : String} (hx : XOk X c g E) (hn : c.xs ≠ []) (e : y = Str.ofString n) (h : gloB c.sc y = true) (hm : c.xn.contains n = true) : ∃ v : V, PE X (.Name y p) (tC v) ∧ ∀ u, RelV v u → u = FvX.xcv X.K n := by
  subst e
  obtain ⟨j1, j2, j3⟩ := glo_of hx h
  have hm : n ∈ c.xn := by simpa using hm
  rcases (hx.xb hn).nm n hm with ⟨h1, h2⟩ | ⟨rfl, h2⟩
  · refine ⟨.ref (He.ga X.K (Str.ofString n)), pe_glob j1 h2 rfl j2, fun u r => ?_⟩
    obtain rfl : u = Value.ref _ := r
    unfold FvX.xcv
    rw [if_neg h1]
  · refine ⟨.ty "ValueError", pe_bltn (v := .ty "ValueError") j1 h2 boot_ve rfl j3 j2, fun u r => ?_⟩
    obtain rfl : u = Value.type "ValueError" := r
    rfl
theorem k_ev_isx {cs : List String} {a : Ex} {t : String} (i_a : SndP a) : SndP (.isx cs a t) := by
  intro c X g E e hx h
  cases e with
  | Call fn l kw pos =>
    cases fn with
    | Name x p =>
      match l, kw, h with
      | [l, .Name y p2], [], h =>
        obtain ⟨h1, h2⟩ := bandE h
        obtain ⟨h2, h3⟩ := bandE h2
        obtain ⟨h3, h4⟩ := bandE h3
        obtain ⟨h4, h5⟩ := bandE h4
        obtain ⟨h5, h6⟩ := bandE h5
        obtain ⟨h6, h7⟩ := bandE h6
        obtain ⟨h7, h8⟩ := bandE h7
        have e1 : x = ("isinstance" : Str) := of_decide_eq_true h1
        have e2 : y = Str.ofString t := of_decide_eq_true h2
        obtain ⟨k1, k2, k3⟩ := glo_of hx h3
        obtain ⟨j1, j2, j3⟩ := glo_of hx h4
        have hm := hx.fr x h5
        obtain ⟨hne, hcs⟩ := xs_ne h7
        obtain ⟨cv, pc, hcv⟩ := pe_xn (p := p2) hx hne e2 h4 h6
        have hv : bootBuiltins x = some (.builtin "isinstance") := by rw [e1]; exact boot_isinstance
        have h9 : isStar l = false := by
          cases l <;> first | rfl | (cases a <;> exact noF h8)
        refine Snd.plain hx h rfl ?_
        refine PE.weak (pe_callB FvX.call_isK k1 hm hv (pa_cons (pe_lk hx h8 (i_a.go hx h8).v) (pa_cons pc pa_nil rfl) (star_of h9)) k3 k2 (star_of h9) rfl) fun σ H Q q => ?_
        obtain ⟨B, F, S, s, q⟩ := q
        refine tV_look (f := fun x => isxD cs t x >>= fun k => .ok (.d (.bl k))) s q fun x F2 H2 v s2 _ l1 q => ?_
        obtain ⟨k, e3, q⟩ := RH.got (RH.bind q) (isxD_er cs t x)
        obtain ⟨z, ns, xs, rfl, hz, rfl⟩ := isx_ok e3
        obtain ⟨p, d, fsV, vs, rfl, hp, hd, _⟩ := lr_exc s2.fh l1
        have hz' := hcs z hz
        exact ⟨p, _, d, fsV, cv, _, _, rfl, hp, hd, (hx.xb hne).xc z hz', hcv, (hx.xb hne).xi z hz' t (by simpa using h6), fin_b s2.fh q⟩
      | [], _, h => exact noF h
      | [_], _, h => exact noF h
      | _ :: y :: _ :: _, _, h => cases y <;> exact noF h
      | [_, .Name _ _], _ :: _, h => exact noF h
      | [_, .BoolOp ..], _, h => exact noF h
      | [_, .NamedExpr ..], _, h => exact noF h
      | [_, .BinOp ..], _, h => exact noF h
      | [_, .UnaryOp ..], _, h => exact noF h
      | [_, .Lambda ..], _, h => exact noF h
      | [_, .IfExp ..], _, h => exact noF h
      | [_, .Dict ..], _, h => exact noF h
      | [_, .Set ..], _, h => exact noF h
      | [_, .ListComp ..], _, h => exact noF h
      | [_, .SetComp ..], _, h => exact noF h
      | [_, .DictComp ..], _, h => exact noF h
      | [_, .GeneratorExp ..], _, h => exact noF h
      | [_, .Await ..], _, h => exact noF h
      | [_, .Yield ..], _, h => exact noF h
      | [_, .YieldFrom ..], _, h => exact noF h
      | [_, .Compare ..], _, h => exact noF h
      | [_, .Call ..], _, h => exact noF h
      | [_, .FormattedValue ..], _, h => exact noF h
      | [_, .JoinedStr ..], _, h => exact noF h
      | [_, .Constant ..], _, h => exact noF h
      | [_, .Attribute ..], _, h => exact noF h
      | [_, .Subscript ..], _, h => exact noF h
      | [_, .Starred ..], _, h => exact noF h
      | [_, .List ..], _, h => exact noF h
      | [_, .Tuple ..], _, h => exact noF h
      | [_, .Slice ..], _, h => exact noF h
    | _ => exact noF h
  | _ => exact noF h
theorem k_ev_xfl {cs : List String} {a : Ex} {n : String} (i_a : SndP a) : SndP (.xfl cs a n) := by
  intro c X g E e hx h
  cases e with
  | Attribute o f pos =>
    obtain ⟨h1, q1⟩ := bandE h
    obtain ⟨h2, q2⟩ := bandE q1
    obtain ⟨h3, h4⟩ := bandE q2
    have e1 : f = Str.ofString n := of_decide_eq_true h1
    subst e1
    obtain ⟨hne, hcs⟩ := xs_ne h3
    refine Snd.plain hx h rfl (PE.weak (FvX.pe_xk (pe_lk hx h4 (i_a.go hx h4).v) (noCall_base h2)) fun σ H Q q => ?_)
    obtain ⟨B, F, S, s, q⟩ := q
    refine tV_look (f := fun x => xflD cs n x >>= fun y => .ok (.d y)) s q fun x F1 H1 v s1 g1 l1 q => ?_
    obtain ⟨y, e1, q5⟩ := RH.got (RH.bind q) (xflD_er cs n x)
    obtain ⟨z, ns, xs, rfl, hz, hn, lk⟩ := xfl_ok e1
    obtain ⟨p, d, fsV, vs, rfl, hp, hd, r, _, hl⟩ := lr_exc s1.fh l1
    obtain ⟨w, e2, rw'⟩ := zip_look r lk
    exact ⟨p, _, d, fsV, w, rfl, hp, hd, (hx.xb hne).xc z (hcs z hz), (hx.xb hne).no z (hcs z hz) n hn, by rw [hl]; exact e2, q5 F1 H1 w (Grow.refl s1.fh) rw'⟩
  | _ => exact noF h
/-- a method of one class -/
def tM (K : PySem.W.Frag) (g : Gv) (E : XK) (c m : String) (n : Nat) (a : Ex) (es : Exs) : TE := fun σ H Q => tL K g E a σ H fun x H1 => ∃ p dx fs, x = .ref p ∧ H1 p = some (.ins (He.ga K (Str.ofString c)) dx fs) ∧ fs.lookup (Str.ofString m) = none ∧
  tAs K g E es σ H1 fun vs H2 => vs.length = n ∧ spF K g (c ++ "." ++ m) (x :: vs) H2 Q E
theorem RH.then_ {α : Type} {r : R α} {ok ok' : α → Prop} {er : String → List D → Prop} (h : RH r ok er) (k : ∀ a, r = .ok a → ok a → ok' a) : RH r ok' er := RH.imp h k fun _ _ z => z
theorem tL_mono {K : PySem.W.Frag} {g : Gv} {E : XK} {x : Ex} {σ : Sx} {H : Hp} {Q Q' : VK} (h : tL K g E x σ H Q) (k : ∀ v H', Q v H' → Q' v H') : tL K g E x σ H Q' := by
  obtain ⟨B, F, S, s, q⟩ := h
  exact ⟨B, F, S, s, RH.imp q (fun d _ q F' H' v gr l => k v H' (q F' H' v gr l)) fun _ _ z => z⟩
theorem tAs_mono {K : PySem.W.Frag} {g : Gv} {E : XK} {x : Exs} {σ : Sx} {H : Hp} {Q Q' : List V → Hp → Prop} (h : tAs K g E x σ H Q) (k : ∀ v H', Q v H' → Q' v H') : tAs K g E x σ H Q' := by
  obtain ⟨B, F, S, s, q⟩ := h
  exact ⟨B, F, S, s, RH.imp q (fun d _ q F' H' v gr l r => k v H' (q F' H' v gr l r)) fun _ _ z => z⟩
theorem meth_form {o : Expr} {m : Str} {apos pos : Pos} {env : Env} {l : List Expr} (hn : noCall o = true) (hl : (apos.endLine == pos.line) = true) (hs : (l.all fun e => !isStar e) = true) (h30 : l.length < 30) : eval (.Call (.Attribute o m apos) l [] pos) env = (do
      let ov ← eval o env
      standAt apos.atName
      let (f, first) ← holding [ov] (getMethod ov m (do return (← importBound o env).getD true))
      callWith pos f first (backTo pos (starEach l env)) (backToKw pos (keywordEach [] env))) := by
  have hf : (backTo pos (starEach l env)).all (fun x => !x.1) = true := by
    have z := plain_back (e := o) (pos := pos) (env := env) hs
    rw [List.all_eq_not_any_not]
    simp only [Bool.not_not]
    rw [z]; rfl
  have hform : methodCallForm (l.length + ([] : List Keyword).length) (backTo pos (starEach l env)) (backToKw pos (keywordEach [] env)) = true := by
    unfold methodCallForm
    rw [hf]
    show (true && true && decide (l.length + 0 + 0 < 30)) = true
    simpa using h30
  have hpos : methodCallPos true o env apos pos = pure pos := by unfold methodCallPos; simp [hl]
  rw [arm_eval_Call, noCall_base hn]
  unfold methodCall
  rw [hform]
  simp only [calleeOf, if_true, hpos, pure_bind]
theorem pe_tM {X : Cx} {c : Ck} {g : Gv} {E : XK} {z m : String} {a : Ex} {es : Exs} {o : Expr} {l : List Expr} {apos pos : Pos} (hline : (apos.endLine == pos.line) = true) (h30 : l.length < 30) (hx : XOk X c g E) (h : emb c a o = true) (hn : noCall o = true) (hl : embs c es l = true) (hm : c.me.contains (z, m, l.length) = true) (i_a : SndP a) (j_es : AsP es) :
    PE X (.Call (.Attribute o (Str.ofString m) apos) l [] pos) (tM X.K g E z m l.length a es) := by
  obtain ⟨f, fd, ps, k, dvs, ds, sp, h1, h2, h3, h4, h5, h6, h7⟩ := (hx.me z m l.length hm).ex
  have pa := pe_lk hx h (i_a.go hx h).v
  have ht := meth_form (m := Str.ofString m) (apos := apos) (pos := pos) (env := X.env) (l := l) hn hline (embs_stars hl) h30
  cases l with
  | nil =>
    cases es with
    | cons _ _ => exact noF hl
    | nil =>
      refine PE.weak (pe_meth0 pa h1 h2 h6 h3 h4 h5 hx.ps ht) fun σ H Q q => ?_
      refine tL_mono q fun x H1 ⟨p, dx, fs, e1, e2, e3, e4⟩ => ⟨p, dx, fs, e1, e2, e3, ?_⟩
      obtain ⟨B, F, S, s, q⟩ := e4
      have q := q F H1 [] (Grow.refl s.fh) rfl fun _ => RpL.nil
      exact h7 [x] H1 Q E rfl q.2
  | cons x0 l =>
    cases es with
    | nil => exact noF hl
    | cons e r =>
      have st := embs_stars hl
      rw [List.all_cons] at st
      have h5' : isStar x0 = false := notE (bandE st).1
      refine PE.weak (pe_meth pa h1 h2 h6 h3 h4 h5 hx.ps (j_es.go hx hl) (star_of h5') (plain_back (e := x0) (bandE st).2) ht) fun σ H Q q => ?_
      refine tL_mono q fun x H1 ⟨p, dx, fs, e1, e2, e3, e4⟩ => ⟨p, dx, fs, e1, e2, e3, ?_⟩
      exact tAs_mono e4 fun vs H2 ⟨hv, q⟩ => h7 (x :: vs) H2 Q E (by rw [List.length_cons, hv]) q
theorem k_ev_mth {cs : List String} {a : Ex} {m : String} {es : Exs} (i_a : SndP a) (j_es : AsP es) : SndP (.mth cs a m es) := by
  intro c X g E e hx h
  unfold emb at h
  split at h
  · rename_i o f apos l pos
    obtain ⟨h1, q1⟩ := bandE h
    obtain ⟨h2', q2⟩ := bandE q1
    obtain ⟨h2, h2'⟩ := bandE h2'
    obtain ⟨hline, h30⟩ := bandE h2'
    have h30 : l.length < 30 := of_decide_eq_true h30
    obtain ⟨h3, q3⟩ := bandE q2
    obtain ⟨h4, q4⟩ := bandE q3
    obtain ⟨h5, h6⟩ := bandE q4
    have e1 : f = Str.ofString m := of_decide_eq_true h1
    subst e1
    have hh : emb c (.mth cs a m es) (.Call (.Attribute o (Str.ofString m) apos) l [] pos) = true := by
      rw [emb]
      exact h
    have pm : ∀ z, z ∈ cs → PE X (.Call (.Attribute o (Str.ofString m) apos) l [] pos) (tM X.K g E z m l.length a es) := fun z hz => pe_tM hline h30 hx h5 h2 h6 (List.all_eq_true.mp h4 z hz) i_a j_es
    have pu : PE X (.Call (.Attribute o (Str.ofString m) apos) l [] pos) (fun σ H Q => ∃ z, z ∈ cs ∧ tM X.K g E z m l.length a es σ H Q) := ⟨fun pins s σ H Q I ⟨z, hz, q⟩ => (pm z hz).run pins s σ H Q I q⟩
    refine Snd.plain hx hh rfl (PE.weak pu fun σ H Q q => ?_)
    obtain ⟨B, F, S, s, q⟩ := q
    have q : RH (evL g.Γ a S >>= fun x => clsOf cs m x >>= fun c => evsL g.Γ es S >>= fun xs => g.Γ (c ++ "." ++ m) (x :: xs) >>= fun v => kept (anyOwn es S) v) (fun val => ∀ F' H' v, Grow F F' H H' → VR X.K F' H H' val v → Q v H') (ErW g E H) := q
    cases ea : evL g.Γ a S with
    | bad => rw [ea] at q; exact q.elim
    | er cc fs =>
      rw [ea] at q
      cases cs with
      | nil => exact noF h3
      | cons z cs => exact ⟨z, List.mem_cons_self .., B, F, S, s, by rw [ea]; exact q⟩
    | ok x =>
      rw [ea] at q
      obtain ⟨z, e1, q⟩ := RH.got (RH.bind (r := clsOf cs m x) q) (clsOf_er cs m x)
      obtain ⟨ns, xs, rfl, hz, hm⟩ := cls_ok e1
      refine ⟨z, hz, B, F, S, s, ?_⟩
      rw [ea]
      intro F1 H1 v g1 l1
      obtain ⟨p, dx, fsV, vs, e2, hp, r, hlen, hl⟩ := lr_ins g1.fh l1
      refine ⟨p, dx, fsV, e2, hp, by rw [hl]; exact zip_none hm, ?_⟩
      have s1 := s.grow g1
      refine ⟨B, F1, S, s1, RH.imp (RH.bind q) (fun ds e3 q F2 H2 ws g2 l2 k2 => ?_) fun _ _ z => ErW.same g1.h z⟩
      refine ⟨by rw [← l2.len]; exact evsL_len h6 e3, ?_⟩
      have l1' : LR X.K F2 H2 (.ins z ns xs) v := l1.grow g2
      have rp : Rp X.K F2 (.ins z ns xs) v := Rp.mono g2.f _ _ (show Rp X.K F1 (.ins z ns xs) v from l1)
      refine call_end (g := g) (E := E) (own := anyOwn es S) (ds := .ins z ns xs :: ds) g2.fh ⟨v, ws, rfl, l1', l2⟩ (fun ho => RpL.cons rp (k2 ho)) (RH.imp q (fun val _ q F3 H3 w g3 r3 => q F3 H3 w ((g1.trans g2).trans g3) ((r3.back g2.h).back g1.h)) fun _ _ z => ErW.same (g1.trans g2).h z)
  · cases h
theorem newD_er (z : String) (v : Val) (c : String) (fs : List D) : newD z v ≠ .er c fs := by
  unfold newD
  split
  · exact ite_er ok_ne
  · exact bad_ne
theorem newD_ok {z : String} {v w : Val} (h : newD z v = .ok w) : ∃ ns xs, v = .d (.ins z ns xs) ∧ w = .d (.ins z ns xs) := by
  unfold newD at h
  split at h
  · rename_i c' ns xs
    by_cases hc : c' = z
    · rw [if_pos hc] at h
      cases h
      subst hc
      exact ⟨ns, xs, rfl, rfl⟩
    · rw [if_neg hc] at h; cases h
  · cases h
theorem evs_len {Γ : Fns} {S : Sg} {c : Ck} : ∀ {es : Exs} {l : List Expr} {xs : List D}, embs c es l = true → evs Γ es S = .ok xs → xs.length = l.length
  | .nil, l, xs, h, e => by
    cases l with
    | nil =>
      have e : R.ok [] = R.ok xs := e
      cases e
      rfl
    | cons _ _ => exact noF h
  | .cons a r, l, xs, h, e => by
    cases l with
    | nil => exact noF h
    | cons x l =>
      obtain ⟨h1, h2⟩ := bandE h
      obtain ⟨h2, h3⟩ := bandE h2
      obtain ⟨v, _, e⟩ := bind_ok (f := fun v : Val => evs Γ r S >>= fun xs => R.ok (v.D :: xs)) e
      obtain ⟨ys, e2, e⟩ := bind_ok e
      cases e
      rw [List.length_cons, List.length_cons, evs_len h3 e2]
theorem k_ev_mk {z : String} {es : Exs} (d_es : DsP es) : SndP (.mk z es) := by
  intro c X g E e hx h
  unfold emb at h
  split at h
  · rename_i x p l pos
    obtain ⟨h1, q1⟩ := bandE h
    obtain ⟨h2, q2⟩ := bandE q1
    obtain ⟨h3, q3⟩ := bandE q2
    obtain ⟨h4, h5⟩ := bandE q3
    have e1 : x = Str.ofString z := of_decide_eq_true h1
    subst e1
    obtain ⟨k1, k2, k3⟩ := glo_of hx h2
    have hh : emb c (.mk z es) (.Call (.Name (Str.ofString z) p) l [] pos) = true := by
      rw [emb]
      exact h
    obtain ⟨f, fd, ps, k, dvs, ds, sp, M, hm, hr, hb, hd, F, imp⟩ := (hx.mks z l.length h3).ex
    cases l with
    | nil => exact noF h4
    | cons x0 l =>
      have st := embs_stars h5
      rw [List.all_cons] at st
      refine Snd.plain hx hh rfl (PE.weak (pe_make M F hr k1 hm hb hd hx.ps (d_es.go hx h5) k2 (star_of (notE (bandE st).1)) (plain_back (e := x0) (bandE st).2)) fun σ H Q q => ?_)
      obtain ⟨B, F, S, s, q⟩ := q
      have q : RH (evs g.Γ es S >>= fun xs => (g.Γ (z ++ ".__init__") (.ins z [] [] :: xs)).noEr >>= fun v => newD z v) (fun val => ∀ F' H' v, Grow F F' H H' → VR X.K F' H H' val v → Q v H') (ErW g E H) := q
      refine ⟨B, F, S, s, RH.imp (RH.bind q) (fun xs e2 q F1 H1 vs g1 r1 => ?_) fun _ _ z => z⟩
      intro a dx ha hdx hne
      have fa : F1 a = none := g1.fh.free ha
      have vl : vs.length = l.length + 1 := by rw [← r1.len]; exact evs_len h5 e2
      refine imp (.ref a :: vs) _ _ E (by rw [List.length_cons, vl]; rfl) ?_
      have h1d : (upd (upd H1 dx (.own a)) a (.ins (He.ga X.K (Str.ofString z)) dx [])) a = some (.ins (He.ga X.K (Str.ofString z)) dx []) := upd_same
      have sm : Same F1 (upd (upd H1 dx (.own a)) a (.ins (He.ga X.K (Str.ofString z)) dx [])) := same_upd2 (same_upd2 g1.fh (g1.fh.free hdx)) fa
      obtain ⟨val, e3, q⟩ := noEr_ok q
      obtain ⟨w, e4, q⟩ := RH.got q (newD_er z val)
      obtain ⟨ns, ys, rfl, rfl⟩ := newD_ok e4
      refine ⟨F1, a, vs, .ins z [] [], xs, rfl, ⟨dx, [], [], h1d, RpL.nil, rfl, Nat.le_refl _, fun n => rfl⟩, fa, sm, r1, ?_⟩
      rw [e3]
      intro y F' H' ey gr sF oi
      cases ey
      obtain ⟨dx', fsV, vs', hp, r', hlen, _, hl⟩ := oi
      refine ⟨rfl, ?_⟩
      have f'a : F' a = none := gr.fh.free (show hid a H' a = none from if_pos rfl)
      have sF2 : Same F' (upd F' a (.ins (He.ga X.K (Str.ofString z)) dx' fsV)) := same_upd f'a
      have hH : ∀ b o, b ≠ a → H1 b = some o → (upd (upd H1 dx (.own a)) a (.ins (He.ga X.K (Str.ofString z)) dx [])) b = some o := fun b o hb e => by
        rw [upd_ne hb, upd_ne (ne_of_none e hdx)]
        exact e
      have G : Grow F1 (upd F' a (.ins (He.ga X.K (Str.ofString z)) dx' fsV)) H1 H' := by
        refine ⟨gr.f.trans sF2, fun b o e => ?_, fun b o e => ?_, fun b hb => ?_⟩
        · by_cases hba : b = a
          · subst hba
            rw [upd_same] at e
            rw [hp]; exact e
          · rw [upd_ne hba] at e
            exact sF b o e
        · have hba : b ≠ a := ne_of_none e ha
          have z1 : hid a (upd (upd H1 dx (.own a)) a (.ins (He.ga X.K (Str.ofString z)) dx [])) b = some o := by
            unfold hid
            rw [if_neg hba]
            exact hH b o hba e
          have z2 := gr.h b o z1
          unfold hid at z2
          rw [if_neg hba] at z2
          exact z2
        · by_cases hba : b = a
          · subst hba; exact .inr ha
          · rw [upd_ne hba] at hb
            rcases gr.new b hb with z1 | z1
            · exact .inl z1
            · refine .inr ?_
              cases q5 : H1 b with
              | none => rfl
              | some o =>
                unfold hid at z1
                rw [if_neg hba, hH b o hba q5] at z1
                cases z1
      exact q _ H' (.ref a) (g1.trans G) (show Rp X.K _ (.ins z ns ys) (.ref a) from by
        rw [Rp]
        exact ⟨a, dx', fsV, vs', rfl, upd_same, RpL.mono sF2 _ _ r', hlen, hl⟩)
  · cases h
theorem k_as_nil   : AsP (.nil ) := by
  intro c X g E l hx h
  cases l with
  | cons _ _ => exact noF h
  | nil =>
    refine PA.weak pa_nil fun σ H Q q => ?_
    obtain ⟨B, F, S, s, q⟩ := q
    exact q F H [] (Grow.refl s.fh) rfl fun _ => RpL.nil
theorem k_as_cons {x : Ex} {r : Exs} (i_x : SndP x) (j_r : AsP r) : AsP (.cons x r) := by
  intro c X g E l hx h
  cases l with
  | nil => exact noF h
  | cons y l =>
    obtain ⟨h1, h2⟩ := bandE h
    obtain ⟨h2, h3⟩ := bandE h2
    refine PA.weak (pa_cons (pe_arg hx h1 (i_x.go hx h1).v) (j_r.go hx h3) (star_of (notE h2))) fun σ H Q q => ?_
    obtain ⟨B, F, S, s, q⟩ := q
    have q : RH (evL g.Γ x S >>= fun y => evsL g.Γ r S >>= fun ys => R.ok (y :: ys)) (fun ds => ∀ F' H' vs, Grow F F' H H' → LRs X.K F' H' ds vs → (anyOwn (.cons x r) S = false → RpL X.K F' ds vs) → Q vs H') (ErW g E H) := q
    refine ⟨B, F, S, s, RH.imp (RH.bind q) (fun d _ q F1 H1 v g1 l1 k1 => ?_) fun _ _ z => z⟩
    refine ⟨B, F1, S, s.grow g1, RH.imp (RH.bind q) (fun ds _ q F2 H2 vs g2 l2 k2 => ?_) fun _ _ z => ErW.same g1.h z⟩
    refine q F2 H2 (v :: vs) (g1.trans g2) ⟨v, vs, rfl, l1.grow g2, l2⟩ fun ho => ?_
    have ho : (ownE x S || anyOwn r S) = false := ho
    rw [Bool.or_eq_false_iff] at ho
    exact RpL.cons (Rp.mono g2.f _ _ (k1 ho.1)) (k2 ho.2)
theorem k_ds_nil   : DsP (.nil ) := by
  intro c X g E l hx h
  cases l with
  | cons _ _ => exact noF h
  | nil =>
    refine PA.weak pa_nil fun σ H Q q => ?_
    obtain ⟨B, F, S, s, q⟩ := q
    exact q F H [] (Grow.refl s.fh) RpL.nil
theorem k_ds_cons {x : Ex} {r : Exs} (i_x : SndP x) (d_r : DsP r) : DsP (.cons x r) := by
  intro c X g E l hx h
  cases l with
  | nil => exact noF h
  | cons y l =>
    obtain ⟨h1, h2⟩ := bandE h
    obtain ⟨h2, h3⟩ := bandE h2
    refine PA.weak (pa_cons (i_x.go hx h1).v (d_r.go hx h3) (star_of (notE h2))) fun σ H Q q => ?_
    obtain ⟨B, F, S, s, q⟩ := q
    have q : RH (ev g.Γ x S >>= fun v => evs g.Γ r S >>= fun ys => R.ok (v.D :: ys)) (fun ds => ∀ F' H' vs, Grow F F' H H' → RpL X.K F' ds vs → Q vs H') (ErW g E H) := q
    refine ⟨B, F, S, s, RH.imp (RH.bind q) (fun val _ q F1 H1 v g1 r1 => ?_) fun _ _ z => z⟩
    obtain ⟨F2, g2, _, r2⟩ := r1.keep g1
    refine ⟨B, F2, S, s.grow g2, RH.imp (RH.bind q) (fun ds _ q F3 H3 vs g3 l3 => ?_) fun _ _ z => ErW.same g2.h z⟩
    exact q F3 H3 (v :: vs) (g2.trans g3) (RpL.cons (Rp.mono g3.f _ _ r2) l3)
theorem k_it_seq {a : Ex} (i_a : SndP a) : ItP (.seq a) := by
  intro c X g E tg e hx h _
  obtain ⟨h1, _⟩ := bandE h
  have p := (i_a.go hx h1).v
  refine PI.weak (pi_or (pi_list p) (pi_or (pi_tup p) (pi_str p))) fun σ H Q q => ?_
  obtain ⟨B, F, S, s, q⟩ := q
  have q : RH (ev g.Γ a S >>= fun v => v.D.seq?) (fun xs => ∀ J F' H', Grow F F' H H' → Walks X.K J F' xs → Q J H') (ErW g E H) := q
  cases ea : ev g.Γ a S with
  | bad => rw [ea] at q; exact q.elim
  | er cc fs => rw [ea] at q; exact .inl ⟨B, F, S, s, by rw [ea]; exact q⟩
  | ok val =>
    rw [ea] at q
    obtain ⟨xs, e1, q⟩ := RH.got (r := val.D.seq?) q (seq_er _)
    cases e2 : val.D with
    | lst ys =>
      rw [e2] at e1
      cases e1
      refine .inl ⟨B, F, S, s, ?_⟩
      rw [ea]
      intro F1 H1 v g1 r1
      obtain ⟨F2, g2, _, r2⟩ := r1.keep g1
      rw [e2, Rp] at r2
      obtain ⟨p, vs, rfl, e4, e3⟩ := r2
      exact ⟨p, rfl, ⟨vs, SqL.of (g2.fh _ _ e4)⟩, q _ F2 H1 g2 (walks_list e4 e3)⟩
    | scr ns =>
      rw [e2] at e1
      cases e1
      refine .inl ⟨B, F, S, s, ?_⟩
      rw [ea]
      intro F1 H1 v g1 r1
      obtain ⟨F2, g2, _, r2⟩ := r1.keep g1
      rw [e2, Rp] at r2
      obtain ⟨p, rfl, e4⟩ := r2
      exact ⟨p, rfl, ⟨_, g2.fh.seq e4⟩, q _ F2 H1 g2 (walks_scr e4)⟩
    | tup ys =>
      rw [e2] at e1
      cases e1
      refine .inr (.inl ⟨B, F, S, s, ?_⟩)
      rw [ea]
      intro F1 H1 v g1 r1
      obtain ⟨F2, g2, _, r2⟩ := r1.keep g1
      rw [e2, Rp] at r2
      obtain ⟨p, vs, rfl, e4, e3⟩ := r2
      exact ⟨p, rfl, ⟨vs, SqT.of (g2.fh _ _ e4)⟩, q _ F2 H1 g2 (walks_tup e4 e3)⟩
    | str t =>
      rw [e2] at e1
      cases e1
      refine .inr (.inr ⟨B, F, S, s, ?_⟩)
      rw [ea]
      intro F1 H1 v g1 r1
      obtain ⟨F2, g2, _, r2⟩ := r1.keep g1
      rw [e2, Rp] at r2
      exact ⟨_, r2, q _ F2 H1 g2 (walks_str t)⟩
    | _ => rw [e2] at e1; cases e1
theorem enum_er (d : D) (c : String) (fs : List D) : enumD d ≠ .er c fs := by cases d <;> first | exact ok_ne | exact bad_ne
theorem enum_ok {d : D} {xs : List D} (h : enumD d = .ok xs) : ∃ ys, d = .lst ys ∧ xs = numD 0 ys := by
  cases d <;> first | (cases h; exact ⟨_, rfl, rfl⟩) | (cases h)
theorem k_it_enum {a : Ex} (i_a : SndP a) : ItP (.enum a) := by
  intro c X g E tg e hx h ht
  cases e with
  | Call fn l kw pos =>
    cases fn with
    | Name x p =>
      match l, kw, h with
      | [l], [], h =>
        obtain ⟨h1, h2⟩ := bandE h
        obtain ⟨h2, h3⟩ := bandE h2
        obtain ⟨h3, h4⟩ := bandE h3
        obtain ⟨h4, h5⟩ := bandE h4
        have e1 : x = ("enumerate" : Str) := of_decide_eq_true h1
        subst e1
        obtain ⟨k1, k2, k3⟩ := glo_of hx h2
        have hm := hx.fr _ h3
        cases tg with
        | Tuple elts kk tpos =>
          refine PI.weak (pi_enum k1 hm (pa_cons (i_a.go hx h5).v pa_nil (star_of (notE h4))) (star_of (notE h4))) fun σ H Q q => ?_
          obtain ⟨B, F, S, s, q⟩ := q
          have q : RH (ev g.Γ a S >>= fun v => enumD v.D) (fun xs => ∀ J F' H', Grow F F' H H' → Walks X.K J F' xs → Q J H') (ErW g E H) := q
          refine ⟨B, F, S, s, RH.imp (RH.bind q) (fun val _ q F1 H1 v g1 r1 => ?_) fun _ _ z => z⟩
          obtain ⟨F2, g2, _, r2⟩ := r1.keep g1
          obtain ⟨xs, e1, q⟩ := RH.got q (enum_er _)
          obtain ⟨ys, e2, rfl⟩ := enum_ok e1
          rw [e2, Rp] at r2
          obtain ⟨p, vs, rfl, e4, e3⟩ := r2
          exact ⟨p, vs, rfl, SqL.of (g2.fh _ _ e4), q _ F2 H1 g2 (walks_enum e4 e3)⟩
        | _ => exact noF ht
      | [], _, h => exact noF h
      | _ :: _ :: _, _, h => exact noF h
      | [_], _ :: _, h => exact noF h
    | _ => exact noF h
  | _ => exact noF h
theorem k_it_rng {a : Ex} (i_a : SndP a) : ItP (.rng a) := by
  intro c X g E tg e hx h _
  cases e with
  | Call fn l kw pos =>
    cases fn with
    | Name x p =>
      match l, kw, h with
      | [l], [], h =>
        obtain ⟨h1, h2⟩ := bandE h
        obtain ⟨h2, h3⟩ := bandE h2
        obtain ⟨h3, h4⟩ := bandE h3
        obtain ⟨h4, h5⟩ := bandE h4
        have e1 : x = ("range" : Str) := of_decide_eq_true h1
        subst e1
        obtain ⟨k1, k2, k3⟩ := glo_of hx h2
        have hm := hx.fr _ h3
        refine PI.weak (pi_rangeA1 k1 hm (pa_cons (pe_lk hx h5 (i_a.go hx h5).v) pa_nil (star_of (notE h4))) (star_of (notE h4))) fun σ H Q q => ?_
        obtain ⟨B, F, S, s, q⟩ := q
        refine tL_then s q fun d F1 H1 v s1 g1 l1 q => ?_
        obtain ⟨j, e1, q⟩ := RH.got (RH.bind q) (int_er d)
        obtain rfl := int_of e1
        obtain ⟨xs, e2, q⟩ := RH.got q (rng_er _ _)
        obtain rfl := rngD_ok e2
        obtain rfl := lr_int l1
        refine ⟨j, rfl, ?_⟩
        have w := walks_rng (K := X.K) (F := F1) 0 (j - 0).toNat
        have q := q _ F1 H1 g1 w
        rw [Int.sub_zero] at q
        exact q
      | [], _, h => exact noF h
      | _ :: _ :: _, _, h => exact noF h
      | [_], _ :: _, h => exact noF h
    | _ => exact noF h
  | _ => exact noF h
theorem k_it_rng2 {a : Ex} {b : Ex} (i_a : SndP a) (i_b : SndP b) : ItP (.rng2 a b) := by
  intro c X g E tg e hx h _
  cases e with
  | Call fn l kw pos =>
    cases fn with
    | Name x p =>
      match l, kw, h with
      | [l, r], [], h =>
        obtain ⟨h1, h2⟩ := bandE h
        obtain ⟨h2, h3⟩ := bandE h2
        obtain ⟨h3, h4⟩ := bandE h3
        obtain ⟨h4, h5⟩ := bandE h4
        obtain ⟨h5, h6⟩ := bandE h5
        obtain ⟨h6, h7⟩ := bandE h6
        have e1 : x = ("range" : Str) := of_decide_eq_true h1
        subst e1
        obtain ⟨k1, k2, k3⟩ := glo_of hx h2
        have hm := hx.fr _ h3
        have s2 : starEach [r] X.env = [(false, eval r X.env)] := star_of (notE h5)
        have s1 : starEach [l, r] X.env = [(false, eval l X.env), (false, eval r X.env)] := by rw [star_of (notE h4), s2]
        refine PI.weak (pi_rangeA2 k1 hm (pa_cons (pe_lk hx h6 (i_a.go hx h6).v) (pa_cons (pe_lk hx h7 (i_b.go hx h7).v) pa_nil (star_of (notE h5))) (star_of (notE h4))) s1 s2) fun σ H Q q => ?_
        obtain ⟨B, F, S, s, q⟩ := q
        refine tL_then s q fun d F1 H1 v s1 g1 l1 q => ?_
        obtain ⟨i, e1, q⟩ := RH.got (RH.bind q) (int_er d)
        obtain rfl := int_of e1
        refine tL_then s1 q fun d F2 H2 w s2 g2 l2 q => ?_
        obtain ⟨j, e1, q⟩ := RH.got (RH.bind q) (int_er d)
        obtain rfl := int_of e1
        obtain ⟨xs, e2, q⟩ := RH.got q (rng_er _ _)
        obtain rfl := rngD_ok e2
        obtain rfl := lr_int l1
        obtain rfl := lr_int l2
        exact ⟨i, j, rfl, q _ F2 H2 (g1.trans g2) (walks_rng (K := X.K) (F := F2) i (j - i).toNat)⟩
      | [], _, h => exact noF h
      | [_], _, h => exact noF h
      | _ :: _ :: _ :: _, _, h => exact noF h
      | [_, _], _ :: _, h => exact noF h
    | _ => exact noF h
  | _ => exact noF h
theorem rng3_er (i j k : Int) (c : String) (fs : List D) : rng3D i j k ≠ .er c fs := ite_er ok_ne
theorem rng3_ok {i j c : Int} {xs : List D} (h : rng3D i j c = .ok xs) : RgC i j c (Builtin.Range.rangeSize i j c).toNat ∧ xs = (List.range (Builtin.Range.rangeSize i j c).toNat).map fun k => .int (i + (k : Nat) * c) := by
  unfold rng3D at h
  split at h
  · rename_i g
    cases h
    exact ⟨⟨g.1, g.2.1, g.2.2.1, by have := g.2.2.2; omega⟩, rfl⟩
  · cases h
theorem k_it_rng3 {a b d : Ex} (i_a : SndP a) (i_b : SndP b) (i_d : SndP d) : ItP (.rng3 a b d) := by
  intro c X g E tg e hx h _
  unfold embI at h
  split at h
  · rename_i x p l r z pos
    obtain ⟨h1, h2⟩ := bandE h
    obtain ⟨h2, h3⟩ := bandE h2
    obtain ⟨h3, h4⟩ := bandE h3
    obtain ⟨h4, h5⟩ := bandE h4
    obtain ⟨h5, h6⟩ := bandE h5
    obtain ⟨h6, h7⟩ := bandE h6
    obtain ⟨h7, h8⟩ := bandE h7
    obtain ⟨h8, h9⟩ := bandE h8
    have e1 : x = ("range" : Str) := of_decide_eq_true h1
    subst e1
    obtain ⟨k1, k2, k3⟩ := glo_of hx h2
    have hm := hx.fr _ h3
    have s3 : starEach [z] X.env = [(false, eval z X.env)] := star_of (notE h6)
    have s2 : starEach [r, z] X.env = [(false, eval r X.env), (false, eval z X.env)] := by rw [star_of (notE h5), s3]
    have s1 : starEach [l, r, z] X.env = (false, eval l X.env) :: starEach [r, z] X.env := star_of (notE h4)
    refine PI.weak (pi_range3 k1 hm (pa_cons (pe_lk hx h7 (i_a.go hx h7).v) (pa_cons (pe_lk hx h8 (i_b.go hx h8).v) (pa_cons (pe_lk hx h9 (i_d.go hx h9).v) pa_nil (star_of (notE h6))) (star_of (notE h5))) (star_of (notE h4))) s1 (by rw [s2]; rfl)) fun σ H Q q => ?_
    obtain ⟨B, F, S, s, q⟩ := q
    refine tL_then s q fun d F1 H1 v s1 g1 l1 q => ?_
    obtain ⟨i, e1, q⟩ := RH.got (RH.bind q) (int_er d)
    obtain rfl := int_of e1
    refine tL_then s1 q fun d F2 H2 w s2 g2 l2 q => ?_
    obtain ⟨j, e1, q⟩ := RH.got (RH.bind q) (int_er d)
    obtain rfl := int_of e1
    refine tL_then s2 q fun d F3 H3 u s3 g3 l3 q => ?_
    obtain ⟨k, e1, q⟩ := RH.got (RH.bind q) (int_er d)
    obtain rfl := int_of e1
    obtain ⟨xs, e2, q⟩ := RH.got q (rng3_er _ _ _)
    obtain ⟨rg, rfl⟩ := rng3_ok e2
    obtain rfl := lr_int l1
    obtain rfl := lr_int l2
    obtain rfl := lr_int l3
    exact ⟨i, j, k, _, rfl, rg, q _ F3 H3 ((g1.trans g2).trans g3) (walks_rngC (K := X.K) (F := F3) i k _)⟩
  · cases h
theorem revs_er (d : D) (c : String) (fs : List D) : revsD d ≠ .er c fs := by cases d <;> first | exact ok_ne | exact bad_ne
theorem k_it_revs {a : Ex} (i_a : SndP a) : ItP (.revs a) := by
  intro c X g E tg e hx h _
  unfold embI at h
  split at h
  · rename_i x p l pos
    obtain ⟨h1, h2⟩ := bandE h
    obtain ⟨h2, h3⟩ := bandE h2
    obtain ⟨h3, h4⟩ := bandE h3
    obtain ⟨h4, h5⟩ := bandE h4
    have e1 : x = ("reversed" : Str) := of_decide_eq_true h1
    subst e1
    obtain ⟨k1, k2, k3⟩ := glo_of hx h2
    have hm := hx.fr _ h3
    refine PI.weak (RT.pi_revA k1 hm (i_a.go hx h5).v (star_of (notE h4))) fun σ H Q q => ?_
    obtain ⟨B, F, S, s, q⟩ := q
    have q : RH (ev g.Γ a S >>= fun v => revsD v.D) (fun xs => ∀ J F' H', Grow F F' H H' → Walks X.K J F' xs → Q J H') (ErW g E H) := q
    refine ⟨B, F, S, s, RH.imp (RH.bind q) (fun val _ q F1 H1 v g1 r1 => ?_) fun _ _ z => z⟩
    obtain ⟨F2, g2, _, r2⟩ := r1.keep g1
    obtain ⟨xs, e1, q⟩ := RH.got q (revs_er _)
    cases e2 : val.D with
    | lst ys =>
      rw [e2] at e1
      cases e1
      rw [e2, Rp] at r2
      obtain ⟨p, vs, rfl, e4, e3⟩ := r2
      exact ⟨p, vs, rfl, .inl ⟨SqL.of (g2.fh _ _ e4), q _ F2 H1 g2 (walks_rev e4 e3)⟩⟩
    | tup ys =>
      rw [e2] at e1
      cases e1
      rw [e2, Rp] at r2
      obtain ⟨p, vs, rfl, e4, e3⟩ := r2
      exact ⟨p, vs, rfl, .inr ⟨SqT.of (g2.fh _ _ e4), q _ F2 H1 g2 (walks_revT e4 e3)⟩⟩
    | _ => rw [e2] at e1; cases e1
  · cases h
theorem RpL.rev {K : PySem.W.Frag} {F : Hp} : ∀ {xs : List D} {vs : List V}, RpL K F xs vs → RpL K F xs.reverse vs.reverse
  | [], _, h => by rw [RpL] at h; subst h; exact RpL.nil
  | x :: xs, vs, h => by
    rw [RpL] at h
    obtain ⟨v, r', rfl, h1, h2⟩ := h
    rw [List.reverse_cons, List.reverse_cons]
    exact (RpL.rev h2).app (RpL.cons h1 RpL.nil)
theorem revD_er (d : D) (c : String) (fs : List D) : revD d ≠ .er c fs := by cases d <;> first | exact ok_ne | exact bad_ne
theorem k_ev_rev {a : Ex} (i_a : SndP a) : SndP (.rev a) := by
  intro c X g E e hx h
  unfold emb at h
  split at h
  · rename_i l k p1 p2 p3 pos
    have hh : emb c (.rev a) (.Subscript l (.Slice none none (some (.UnaryOp .USub (.Constant (.int 1) k p1) p2)) p3) pos) = true := by
      rw [emb]
      exact h
    refine Snd.plain hx hh rfl (PE.weak (pe_revL (pe_lk hx h (i_a.go hx h).v)) fun σ H Q q => ?_)
    obtain ⟨B, F, S, s, q⟩ := q
    refine tV_look (f := fun x => revD x) s q fun x F1 H1 v s1 g1 l1 q => ?_
    obtain ⟨val, e2, q⟩ := RH.got q (revD_er x)
    cases x with
    | lst xs =>
      cases e2
      obtain ⟨p, ws, rfl, hp, r1⟩ := l1
      exact ⟨p, ws, rfl, SqL.of hp, fun z hz => endL s1.fh q rfl r1.rev z hz⟩
    | _ => cases e2
  · cases h
theorem lrgD_er (i j : Int) (c : String) (fs : List D) : lrgD i j ≠ .er c fs := ite_er ok_ne
theorem lrgD_ok {i j : Int} {v : Val} (h : lrgD i j = .ok v) : (j - i).toNat ≤ 2 ^ 24 ∧ v = .fr ((List.range (j - i).toNat).map fun k => .int (i + (k : Nat))) := by
  unfold lrgD at h
  split at h
  · rename_i z
    cases h
    exact ⟨z, rfl⟩
  · cases h
theorem rgV_rp {K : PySem.W.Frag} {F : Hp} (i : Int) : ∀ l : List Nat, RpL K F (l.map fun k => .int (i + (k : Nat))) (l.map fun k => V.int (i + (k : Nat)))
  | [] => RpL.nil
  | k :: r => RpL.cons (by rw [Rp]) (rgV_rp i r)
theorem k_ev_lrg1 {b : Ex} (i_b : SndP b) : SndP (.lrg1 b) := by
  intro c X g E e hx h
  have h0 := h
  unfold emb at h
  split at h
  · rename_i x p y p2 l q pos
    obtain ⟨h1, w1⟩ := bandE h
    obtain ⟨h2, w2⟩ := bandE w1
    obtain ⟨h3, w3⟩ := bandE w2
    obtain ⟨h4, w4⟩ := bandE w3
    obtain ⟨h5, w5⟩ := bandE w4
    obtain ⟨h6, w6⟩ := bandE w5
    obtain ⟨h7, h8⟩ := bandE w6
    have e1 : x = ("list" : Str) := of_decide_eq_true h1
    have e2 : y = ("range" : Str) := of_decide_eq_true h2
    subst e1
    subst e2
    obtain ⟨k1, _, _⟩ := glo_of hx h3
    obtain ⟨k2, _, _⟩ := glo_of hx h4
    refine Snd.plain hx h0 rfl (PE.weak (pe_listRgA hx.calm k1 (hx.fr _ h5) (prg_1 k2 (hx.fr _ h6) (pe_lk hx h8 (i_b.go hx h8).v) (star_of (notE h7))) (star_of rfl)) fun σ H Q q => ?_)
    obtain ⟨B, F, S, s, q⟩ := q
    refine tV_look (f := fun y => y.int? >>= fun j => lrgD 0 j) s q fun y F1 H1 v s1 g1 l1 q => ?_
    obtain ⟨j, e1, q⟩ := RH.got (RH.bind q) (int_er y)
    obtain rfl := int_of e1
    obtain ⟨val, e2, q⟩ := RH.got q (lrgD_er _ _)
    obtain ⟨z, rfl⟩ := lrgD_ok e2
    obtain rfl := lr_int l1
    exact ⟨j, rfl, z, fun w hw => endL s1.fh q rfl (rgV_rp 0 _) w hw⟩
  · cases h
theorem k_ev_lrg {a b : Ex} (i_a : SndP a) (i_b : SndP b) : SndP (.lrg a b) := by
  intro c X g E e hx h
  have h0 := h
  unfold emb at h
  split at h
  · rename_i x p y p2 l r q pos
    obtain ⟨h1, w1⟩ := bandE h
    obtain ⟨h2, w2⟩ := bandE w1
    obtain ⟨h3, w3⟩ := bandE w2
    obtain ⟨h4, w4⟩ := bandE w3
    obtain ⟨h5, w5⟩ := bandE w4
    obtain ⟨h6, w6⟩ := bandE w5
    obtain ⟨h7, w7⟩ := bandE w6
    obtain ⟨h8, w8⟩ := bandE w7
    obtain ⟨h9, h10⟩ := bandE w8
    have e1 : x = ("list" : Str) := of_decide_eq_true h1
    have e2 : y = ("range" : Str) := of_decide_eq_true h2
    subst e1
    subst e2
    obtain ⟨k1, _, _⟩ := glo_of hx h3
    obtain ⟨k2, _, _⟩ := glo_of hx h4
    have t2 : starEach [r] X.env = [(false, eval r X.env)] := star_of (notE h8)
    have t1 : starEach [l, r] X.env = [(false, eval l X.env), (false, eval r X.env)] := by rw [star_of (notE h7), t2]
    refine Snd.plain hx h0 rfl (PE.weak (pe_listRgA hx.calm k1 (hx.fr _ h5) (prg_2 k2 (hx.fr _ h6) (pe_lk hx h9 (i_a.go hx h9).v) (pe_lk hx h10 (i_b.go hx h10).v) (star_of (notE h7)) (star_of (notE h8)) (by rw [t2]; rfl)) (star_of rfl)) fun σ H Q q => ?_)
    obtain ⟨B, F, S, s, q⟩ := q
    refine tV_look (f := fun x => x.int? >>= fun i => evL g.Γ b S >>= fun y => y.int? >>= fun j => lrgD i j) s q fun y F1 H1 v s1 g1 l1 q => ?_
    obtain ⟨i, e1, q⟩ := RH.got (RH.bind q) (int_er y)
    obtain rfl := int_of e1
    refine tV_look (f := fun y => y.int? >>= fun j => lrgD i j) s1 q fun y F2 H2 w s2 g2 l2 q => ?_
    obtain ⟨j, e1, q⟩ := RH.got (RH.bind q) (int_er y)
    obtain rfl := int_of e1
    obtain ⟨val, e2, q⟩ := RH.got q (lrgD_er _ _)
    obtain ⟨z, rfl⟩ := lrgD_ok e2
    obtain rfl := lr_int l1
    obtain rfl := lr_int l2
    exact ⟨i, j, rfl, rfl, z, fun w hw => endL s2.fh q rfl (rgV_rp i _) w hw⟩
  · cases h
theorem few1 {v : Expr} {cpos : Pos} {env : Env} (h : isStar v = false) : ((backTo cpos (starEach [v] env)).all (fun x => !x.1) && (backToKw cpos (keywordEach [] env)).all (fun x => x.1.isSome)
      && decide ([v].length + ([] : List Keyword).length + (if ([] : List Keyword).isEmpty then 0 else 1) < 30)) = true := by
  rw [star_of h]; rfl
theorem lsI_er (d : D) (c : String) (fs : List D) : lsI d ≠ .er c fs := by
  cases d <;> first | exact bad_ne | exact mat_er fun _ => ok_ne
theorem lsI_ok {d : D} {ns : List Int} (h : lsI d = .ok ns) : ∃ xs, d = .lst xs ∧ intsOf xs = some ns := by
  cases d with
  | lst xs =>
    have h : optR (intsOf xs) R.ok = .ok ns := h
    cases e : intsOf xs with
    | none => rw [e] at h; cases h
    | some m => rw [e] at h; cases h; exact ⟨xs, rfl, e⟩
  | _ => cases h
theorem k_ev_cnt {a b : Ex} (i_a : SndP a) (i_b : SndP b) : SndP (.cnt a b) := by
  intro c X g E e hx h
  have h0 := h
  unfold emb at h
  split at h
  · rename_i o n apos l cpos
    obtain ⟨h1, w1⟩ := bandE h
    obtain ⟨h2, w2⟩ := bandE w1
    obtain ⟨h3, w3⟩ := bandE w2
    obtain ⟨h4, w4⟩ := bandE w3
    obtain ⟨h5, h6⟩ := bandE w4
    have e1 : n = ("count" : Str) := of_decide_eq_true h1
    subst e1
    have h4 := notE h4
    have hb : ∀ nm, attributeBase o nm X.env (eval o X.env) = eval o X.env := fun nm => plainO_ok h2
    refine Snd.plain hx h0 rfl (PE.weak (pe_bm PySem.F.plainAttrs_list PySem.F.slot_list_count PySem.F.type_list_count mt_lcount (pe_lk hx h5 (i_a.go hx h5).v) (pa_cons (pe_lk hx h6 (i_b.go hx h6).v) pa_nil (star_of h4)) (hb _) (few1 h4) h3 (star_of h4) rfl) fun σ H Q q => ?_)
    obtain ⟨B, F, S, s, q⟩ := q
    refine tV_look (f := fun x => lsI x >>= fun ns => evL g.Γ b S >>= fun y => y.int? >>= fun k => cntD ns k) s q fun x F1 H1 v s1 g1 l1 q => ?_
    obtain ⟨ns, e1, qn⟩ := RH.got (RH.bind q) (lsI_er x)
    clear q
    obtain ⟨xs, rfl, hn⟩ := lsI_ok e1
    obtain ⟨p, ws, rfl, hp, r1⟩ := l1
    refine ⟨.inl ⟨rfl, ws, SqL.of hp⟩, ?_⟩
    refine tV_look (f := fun y => y.int? >>= fun k => cntD ns k) s1 qn fun y F2 H2 w s2 g2 l2 q => ?_
    obtain ⟨k, e2, q⟩ := RH.got (RH.bind q) (int_er y)
    obtain rfl := int_of e2
    have q : ∀ F' H' v, Grow F2 F' H2 H' → VR X.K F' H2 H' (.d (.int (ns.count k : Nat))) v → Q v H' := q
    obtain rfl := lr_int l2
    have hp2 := g2.h _ _ hp
    rw [r1.ints hn] at hp2
    exact ⟨p, ns, k, rfl, rfl, SqL.of hp2, q F2 H2 _ (Grow.refl s2.fh) (by rfl)⟩
  · cases h
mutual
theorem s_evP : ∀ x : Ex, SndP x
  | .ite t a b => fun _ _ _ _ _ _ h => noF h
  | .var i => k_ev_var 
  | .cst d => k_ev_cst 
  | .bin o a b => k_ev_bin (s_evP a) (s_evP b)
  | .neg a => k_ev_neg (s_evP a)
  | .rev a => k_ev_rev (s_evP a)
  | .lrg1 b => k_ev_lrg1 (s_evP b)
  | .lrg a b => k_ev_lrg (s_evP a) (s_evP b)
  | .cnt a b => k_ev_cnt (s_evP a) (s_evP b)
  | .nt a => k_ev_nt (s_evP a)
  | .cmp o a b => k_ev_cmp (s_evP a) (s_evP b)
  | .chn o p a b d => k_ev_chn (s_evP a) (s_evP b) (s_evP d)
  | .and a b => k_ev_and (s_evP a) (s_evP b)
  | .or a b => k_ev_or (s_evP a) (s_evP b)
  | .tup es => k_ev_tup (s_dsP es)
  | .lst es => k_ev_lst (s_dsP es)
  | .sub a i => k_ev_sub (s_evP a) (s_evP i)
  | .slc a lo hi => k_ev_slc (s_evP a) (s_evP lo) (s_evP hi)
  | .slcL a lo => k_ev_slcL (s_evP a) (s_evP lo)
  | .slcH a hi => k_ev_slcH (s_evP a) (s_evP hi)
  | .call f es => k_ev_call (s_asP es)
  | .bi b es => k_ev_bi (s_asP es)
  | .isa a t => k_ev_isa (s_evP a)
  | .fld cs a n => k_ev_fld (s_evP a)
  | .mth cs a m es => k_ev_mth (s_evP a) (s_asP es)
  | .mk z es => k_ev_mk (s_dsP es)
  | .isx cs a t => k_ev_isx (s_evP a)
  | .xfl cs a n => k_ev_xfl (s_evP a)
  | .m1 m a b => k_ev_m1 (s_evP a) (s_evP b)
  | .lc own tg it d e => k_ev_lc (s_evP d) (s_itP it) (s_evP e)
theorem s_asP : ∀ x : Exs, AsP x
  | .nil  => k_as_nil 
  | .cons x r => k_as_cons (s_evP x) (s_asP r)
theorem s_dsP : ∀ x : Exs, DsP x
  | .nil  => k_ds_nil 
  | .cons x r => k_ds_cons (s_evP x) (s_dsP r)
theorem s_itP : ∀ x : It, ItP x
  | .seq a => k_it_seq (s_evP a)
  | .enum a => k_it_enum (s_evP a)
  | .rng a => k_it_rng (s_evP a)
  | .rng2 a b => k_it_rng2 (s_evP a) (s_evP b)
  | .rng3 a b d => k_it_rng3 (s_evP a) (s_evP b) (s_evP d)
  | .revs a => k_it_revs (s_evP a)
end
theorem s_ev (x : Ex) {c : Ck} {X : Cx} {g : Gv} {E : XK} {e : Expr} (hx : XOk X c g E) (h : emb c x e = true) : Snd X g E x e := s_evP x c X g E e hx h
theorem s_it (x : It) {c : Ck} {X : Cx} {g : Gv} {E : XK} {tg e : Expr} (hx : XOk X c g E) (h : embI c x e = true) (t : tgOk x tg = true) : PI X tg e (tI X.K g E x) := s_itP x c X g E tg e hx h t
end
end Fv
end
section
set_option maxHeartbeats 400000
namespace Fv
open PySem PySem.Spec PyProof.Rows L2

def swB (c : Ck) (x : Str) (py : Pos) : Expr → Bool
  | .ListComp _ _ scope pos => decide (c.sc.names.lookup x = some .cell) || (match c.sc.kind with | .function => true | _ => false) && (decide (c.sc.names.lookup x = some .local) && ((py.line == pos.line) && !(scope.names.any fun (n, k) => n == x && (k == .local || k == .cell))))
  | .SetComp _ _ _ _ => false
  | .DictComp _ _ _ _ _ => false
  | _ => true
/-- no comprehension, no tuple -/
def noDisp : Expr → Bool
  | .ListComp _ _ _ _ => false
  | .SetComp _ _ _ _ => false
  | .DictComp _ _ _ _ _ => false
  | .Tuple _ _ _ => false
  | _ => true
def embTx (s : Tx) : Expr → Bool
  | .Constant (.str t) _ _ => decide (t = ⟨s.toArray⟩)
  | _ => false
def embA1 (c : Ck) (z : String) (e : Nat) : Ha → Expr → Bool
  | .keep, v => emb c (.var e) v
  | .fld f, v => match v with
    | .Attribute o g _ => emb c (.var e) o && (decide (g = Str.ofString f) && (decide (f ∈ FvX.xNs z) && noCall o))
    | _ => false
  | .txt s, v => embTx s v
def embAc (c : Ck) (z : String) (e : Nat) : List (Nat × Ha) → List Stmt → Bool
  | [], l => l.isEmpty
  | h :: r, l => match l with
    | .Assign [.Name m _] v _ :: l => decide (c.N[h.1]? = some m) && (decide (c.sc.names.lookup m = some .local) && (decide (h.1 ≠ e) && (embA1 c z e h.2 v && (noDisp v && embAc c z e r l))))
    | _ => false
def embHs (c : Ck) : List Hd → List ExceptHandler → Bool
  | [], l => l.isEmpty
  | h :: r, l => match l with
    | .ExceptHandler (some (.Name x _)) (some n) (b₀ :: suite) _ :: l => decide (x = Str.ofString h.c) && (gloB c.sc x && (c.xs.contains h.c && (decide (c.N[h.e]? = some n) && (decide (c.sc.names.lookup n = some .local) && (embAc c h.c h.e h.acts (b₀ :: suite) && embHs c r l)))))
    | _ => false
mutual
def embS (c : Ck) : Sm → Stmt → Bool
  | .set i e, s => match s with
    | .Assign [.Name x py] v _ => decide (c.N[i]? = some x) && (locB c.ts x && (swB c x py v && emb c e v))
    | _ => false
  | .setT is e, s => match s with
    | .Assign [t] v _ => embT c (.tup is) t && (noDisp v && emb c e v)
    | _ => false
  | .aug i o e, s => match s with
    | .AugAssign (.Name x _) op v _ => decide (c.N[i]? = some x) && (locB c.ts x && (decide (op = o.op) && emb c e v))
    | _ => false
  | .app i e, s => match s with
    | .Expr (.Call (.Attribute (.Name x p) n apos) [v] [] cpos) _ => emb c (.var i) (.Name x p) && (decide (n = ("append" : Str)) && ((apos.endLine == cpos.line) && (!isStar v && emb c e v)))
    | _ => false
  | .ext i e, s => match s with
    | .Expr (.Call (.Attribute (.Name x p) n apos) [v] [] cpos) _ => emb c (.var i) (.Name x p) && (decide (n = ("extend" : Str)) && ((apos.endLine == cpos.line) && (!isStar v && emb c e v)))
    | _ => false
  | .mov i j, s => match s with
    | .Assign [.Name x py] (.Name y p) _ => decide (c.N[i]? = some x) && (locB c.ts x && emb c (.var j) (.Name y p))
    | _ => false
  | .put i k e, s => match s with
    | .Assign [.Subscript (.Name x p) ix _] v _ => emb c (.var i) (.Name x p) && (noDisp v && (emb c k ix && emb c e v))
    | _ => false
  | .ifs t a b, s => match s with
    | .If z l r _ => emb c t z && (embSs c a l && embSs c b r)
    | _ => false
  | .whl t b, s => match s with
    | .While z l [] _ => emb c t z && embSs c b l
    | _ => false
  | .for_ tg it b, s => match s with
    | .For t i l [] _ => embT c tg t && ((embI c it i && tgOk it t) && embSs c b l)
    | _ => false
  | .ret e, s => match s with
    | .Return (some v) _ => emb c e v
    | .Return none _ => (match e with | .cst .non => true | _ => false)
    | _ => false
  | .exp e, s => match s with
    | .Expr v _ => noDisp v && emb c e v
    | _ => false
  | .brk, s => match s with
    | .Break _ => true
    | _ => false
  | .cnt, s => match s with
    | .Continue _ => true
    | _ => false
  | .pas, s => match s with
    | .Pass _ => true
    | _ => false
  | .nev, _ => true
  | .rse z es, s => match s with
    | .Raise (some (.Call (.Name x _) l [] _)) none _ => decide (x = Str.ofString z) && (gloB c.sc x && (c.xs.contains z && (c.xr.contains (z, l.length) && (!l.isEmpty && embs c es l))))
    | _ => false
  | .tryS x f es hs, s => match s with
    | .Try [.Assign [.Name y _] (.Call (.Name fn _) l [] _) _] (h₀ :: hds) [] [] _ => decide (c.N[x]? = some y) && (decide (c.sc.names.lookup y = some .local) && (decide (fn = Str.ofString f) && (gloB c.sc fn && (c.fn.contains (f, l.length) && (!l.isEmpty && (embs c es l && (!c.xs.isEmpty && embHs c hs (h₀ :: hds))))))))
    | _ => false
  | .fst _ _ _, _ => false
  | .ini _ _, _ => false
def embSs (c : Ck) : Sms → List Stmt → Bool
  | .nil, l => match l with
    | [] => true
    | _ => false
  | .cons s r, l => match l with
    | x :: l => embS c s x && embSs c r l
    | _ => false
  | .frz _ r, l => embSs c r l
end

def OH (K : PySem.W.Frag) (g : Gv) (E : XK) (F0 B : Hp) (D : Ends) (o : Out) : Prop := match o with
  | .nx S => ∀ F H σ, Grow F0 F B H → StOk K B F H σ S → D.nx σ H
  | .rt val => ∀ F H v, Grow F0 F B H → VR K F B H val v → D.rt v H
  | .bk S => ∀ F H σ, Grow F0 F B H → StOk K B F H σ S → D.bk σ H
  | .ct S => ∀ F H σ, Grow F0 F B H → StOk K B F H σ S → D.ct σ H
  | .er c fs => ErW g E B c fs
  | .bad => False
def tS (K : PySem.W.Frag) (g : Gv) (E : XK) (o : Sg → Out) : TS := fun D σ H => ∃ F0 B F S, Grow F0 F B H ∧ StOk K B F H σ S ∧ OH K g E F0 B D (o S)
theorem OH.of {K : PySem.W.Frag} {g : Gv} {E : XK} {F0 B : Hp} {D : Ends} {α : Type} {r : R α} {f : α → Out} (h : OH K g E F0 B D (Out.of r f)) : RH r (fun a => OH K g E F0 B D (f a)) (ErW g E B) := by
  cases r <;> exact h
theorem PS.weak {X : Cx} {e : Stmt} {t t' : TS} (h : PS X e t) (w : ∀ D σ H, t' D σ H → t D σ H) : PS X e t' := ⟨fun pins s σ H D I q => h.run pins s σ H D I (w D σ H q)⟩
theorem PSs.weak {X : Cx} {e : List Stmt} {t t' : TS} (h : PSs X e t) (w : ∀ D σ H, t' D σ H → t D σ H) : PSs X e t' := ⟨fun pins s σ H D I q => h.run pins s σ H D I (w D σ H q)⟩
structure YOk (X : Cx) (c : Ck) (g : Gv) (E : XK) : Prop where
  x : XOk X c g E
  po : PassesOwn (model X.prog X.w) X.A X.env X.xe
  tk : Takes X fun cls d _ H => E cls d H
  st : X.stack = X.env :: X.outer
  fr : X.env.frame = some X.env.locals
  nx : X.ex = []
theorem Grow.wr {F0 F B H : Hp} {p : Addr} {o : HO} (g : Grow F0 F B H) (fp : F p = none) (bp : B p = none) : Grow F0 F B (upd H p o) := ⟨g.f, same_upd2 g.fh fp, same_upd2 g.h bp, g.new⟩
theorem Grow.thru {F0 F1 F B H H1 : Hp} (a : Grow F0 F1 B H1) (b : Grow F1 F B H) : Grow F0 F B H := ⟨a.f.trans b.f, b.fh, b.h, fun p hp => (b.new p hp).elim (a.new p) .inr⟩
theorem Grow.cut {F0 F1 F B H : Hp} (a : Grow F0 F B H) (s1 : Same F0 F1) (s2 : Same F1 F) : Grow F1 F B H := ⟨s2, a.fh, a.h, fun p hp => (a.new p hp).elim (fun z => .inl (by
  cases q : F0 p with
  | none => exact absurd q z
  | some o => rw [s1 _ _ q]; exact fun y => nomatch y)) .inr⟩
theorem ixN_of {n : Nat} {j : Int} {k : Nat} (h : ixOf n j = some k) : ixN n j = some k := by rw [ixN_eq]; exact h
theorem plainAsg {c : Ck} {i : Ex} {k o : Expr} {pos : Pos} {env : Env} (h : emb c i k = true) : ∀ v, assign (.Subscript o k pos) env v = (do
      let ov ← holding [v] (eval o env)
      let iv ← holding [v, ov] (eval k env)
      standAt pos
      holding [v, ov, iv] (setItem ov iv v)
      release [v, ov, iv] []) := by
  intro v
  cases k <;> first | rfl | (cases i <;> exact noF h)
theorem setAll_er : ∀ (is : List Nat) (xs : List D) (S : Sg) (c : String) (fs : List D), setAll is xs S ≠ .er c fs
  | [], [], _, _, _ => ok_ne
  | [], _ :: _, _, _, _ => bad_ne
  | _ :: _, [], _, _, _ => bad_ne
  | _ :: is, _ :: xs, _, c, fs => setAll_er is xs _ c fs
theorem tgset_er (tg : Tg) (d : D) (S : Sg) (c : String) (fs : List D) : tg.set d S ≠ .er c fs := by
  cases tg with
  | one j => exact ok_ne
  | tup is => cases d <;> first | exact bad_ne | exact setAll_er is _ _ _ _
section
variable {X : Cx} {c : Ck} {g : Gv} {E : XK}
theorem pe_nm {i : Nat} {e : Expr} (hx : XOk X c g E) (h : emb c (.var i) e = true) : PE X e (tVar i) := by
  cases e with
  | Name x pos =>
    rw [emb] at h
    simp only [Bool.and_eq_true, Bool.not_eq_true', decide_eq_true_eq] at h
    obtain ⟨h1, h2, h3, h4⟩ := h
    exact pe_var (i := i) (by rw [hx.n]; exact h1) (by rw [hx.sc]; exact vis_of h2) h3 h4
  | _ => exact noF h
theorem sw_false {e : Expr} {t : Option Expr} {l : Nat} {env : Env} (h : noDisp e = true) : swapsWith e t l env = pure false := by
  cases e <;> first | rfl | exact noF h
theorem swS_false {e t : Expr} {l : Nat} {env : Env} (h : noDisp e = true) : swapsWithSole [t] e l env = pure false := by
  cases e <;> first | rfl | exact noF h
theorem sws_false {e t : Expr} {env : Env} (h : noDisp e = true) : swappedStores [t] e env = pure none := by
  cases e <;> first | (cases t <;> rfl) | exact noF h
/-- a comprehension, stored in a name -/
theorem ps_lcset {own : List (Str × Nat)} {tg : Tg} {it : It} {d e : Ex} {x : Str} {py : Pos} {l : Expr} {gens : List Comprehension} {scope : Scope} {pos spos : Pos} {i : Nat} (hx : XOk X c g E) (h : emb c (.lc own tg it d e) (.ListComp l gens scope pos) = true)
    (hi : X.N[i]? = some x) (hl : X.env.scope.names.lookup x = some .local) (hsw : ∀ gens, swapsWith (.ListComp l gens scope pos) (some (.Name x py)) spos.line X.env = pure true) :
    PS X (.Assign [.Name x py] (.ListComp l gens scope pos) spos) (tAsg (tV X.K g E (.lc own tg it d e)) (gName i)) := by
  match gens, h with
  | [⟨t, i, ifs, n⟩], h =>
    obtain rfl := async0 h
    obtain ⟨h1, h2⟩ := bandE h
    obtain ⟨h2', h2⟩ := bandE h2
    obtain ⟨h2, h3⟩ := bandE h2
    obtain ⟨h2, hT⟩ := bandE h2
    obtain ⟨h3, h4⟩ := bandE h3
    obtain ⟨h4, h5⟩ := bandE h4
    have ok : BlkOk X.N X.env.scope scope own := by rw [hx.n, hx.sc]; exact blkOk_by h1
    have ht : ∀ (s : Shared) (H : Hp) (C : Addr) (cl : List (Str × Addr)) (fp : List Addr), PTs (X.blk s H scope (compEnvC scope cl C X.env) fp) ifs (tT X.K g E0 d) := fun s H C cl fp => by
      match ifs, h5 with
      | [], h5 =>
        have e1 : d = .cst (.bl true) := by
          match d, h5 with
          | .cst (.bl true), _ => rfl
        subst e1
        refine PTs.weak pts_nil fun σ H Q q => ?_
        obtain ⟨B, F, S, s, q⟩ := q
        exact q F H (Grow.refl s.fh)
      | [z], h5 => exact pts_one (s_ev d (hx.blk ok s H C cl fp) h5).t
    refine PS.weak (ps_setLc hx.calm hx.nd hi hl (hsw _) (s_it it hx h2 hT) ok (fun s H C cl fp => pg_tg (hx.blk ok s H C cl fp) h3) ht (fun s H C cl fp => (s_ev e (hx.blk ok s H C cl fp) h4).v) (embI_noset h2)) fun D σ H q => lc_ok h2' q
  | [], h => exact noF h
  | _ :: _ :: _, h => exact (comp2 h).elim
theorem sw_cell {elt : Expr} {gs : List Comprehension} {scope : Scope} {pos py : Pos} {y : Str} {l : Nat} {env : Env} (hy : env.scope.names.lookup y = some .cell) : swapsWith (.ListComp elt gs scope pos) (some (.Name y py)) l env = pure false := by
  have ky : env.kindOf y = some .cell := hy
  unfold swapsWith
  simp only [ky]
  have e : ((some NameKind.cell : Option NameKind) == some .local) = false := rfl
  simp [e]
/-- a name gets a value -/
theorem ps_setV {i : Nat} {e : Ex} {x : Str} {py : Pos} {v : Expr} {spos : Pos} (hx : XOk X c g E) (h1 : c.N[i]? = some x) (h2 : locB c.ts x = true) (h3 : swB c x py v = true) (h4 : emb c e v = true) :
    PS X (.Assign [.Name x py] v spos) (tAsg (tV X.K g E e) (gName i)) := by
  have hn : X.N[i]? = some x := by rw [hx.n]; exact h1
  obtain ⟨k1, k2⟩ := hx.ts x (loc_of h2)
  cases v with
  | ListComp l gens scope pos =>
    rcases Bool.or_eq_true_iff.mp h3 with h3 | h3
    · exact ps_set hx.nd hn k1 (s_ev e hx h4).v (sw_cell (by rw [hx.sc]; exact of_decide_eq_true h3)) k2
    obtain ⟨q1, q2⟩ := bandE h3
    obtain ⟨q2, q3⟩ := bandE q2
    obtain ⟨q3, q4⟩ := bandE q3
    have kf : X.env.scope.kind = .function := by
      rw [hx.sc]
      cases q : c.sc.kind <;> rw [q] at q1 <;> first | rfl | cases q1
    have kl : X.env.scope.names.lookup x = some .local := by
      rw [hx.sc]
      exact of_decide_eq_true q2
    cases e with
    | lc own tg it d e => exact ps_lcset hx h4 hn kl fun gens => sw_true kf kl q3 (notE q4)
    | _ => exact noF h4
  | SetComp _ _ _ _ => exact noF h3
  | DictComp _ _ _ _ _ => exact noF h3
  | _ => exact ps_set hx.nd hn k1 (s_ev e hx h4).v rfl k2
theorem augD_er (o : BOp) (a b : D) (c : String) (fs : List D) : augD o a b ≠ .er c fs := by
  cases o <;> cases a <;> cases b <;> first | exact ok_ne | exact bad_ne
theorem augD_ok {o : BOp} {a b d : D} (h : augD o a b = .ok d) : ∃ i j : Int, a = .int i ∧ b = .int j ∧ ((o = .add ∧ d = .int (i + j)) ∨ (o = .sub ∧ d = .int (i - j))) := by
  cases o <;> cases a <;> cases b <;> first | (cases h; done) | skip
  · cases h; exact ⟨_, _, rfl, rfl, .inl ⟨rfl, rfl⟩⟩
  · cases h; exact ⟨_, _, rfl, rfl, .inr ⟨rfl, rfl⟩⟩
theorem inv_set {c : Ck} {i : Nat} {e : Ex} {s : Stmt} (h : embS c (.set i e) s = true) : ∃ x py v pos, s = .Assign [.Name x py] v pos ∧ (decide (c.N[i]? = some x) && (locB c.ts x && (swB c x py v && emb c e v))) = true := by
  unfold embS at h
  split at h
  · exact ⟨_, _, _, _, rfl, h⟩
  · cases h
theorem inv_setT {c : Ck} {is : List Nat} {e : Ex} {s : Stmt} (h : embS c (.setT is e) s = true) : ∃ t v pos, s = .Assign [t] v pos ∧ (embT c (.tup is) t && (noDisp v && emb c e v)) = true := by
  unfold embS at h
  split at h
  · exact ⟨_, _, _, rfl, h⟩
  · cases h
theorem inv_aug {c : Ck} {i : Nat} {o : BOp} {e : Ex} {s : Stmt} (h : embS c (.aug i o e) s = true) : ∃ x p op v pos, s = .AugAssign (.Name x p) op v pos ∧ (decide (c.N[i]? = some x) && (locB c.ts x && (decide (op = o.op) && emb c e v))) = true := by
  unfold embS at h
  split at h
  · exact ⟨_, _, _, _, _, rfl, h⟩
  · cases h
theorem inv_app {c : Ck} {i : Nat} {e : Ex} {s : Stmt} (h : embS c (.app i e) s = true) : ∃ x p n apos v cpos pos, s = .Expr (.Call (.Attribute (.Name x p) n apos) [v] [] cpos) pos ∧ (emb c (.var i) (.Name x p) && (decide (n = ("append" : Str)) && ((apos.endLine == cpos.line) && (!isStar v && emb c e v)))) = true := by
  unfold embS at h
  split at h
  · exact ⟨_, _, _, _, _, _, _, rfl, h⟩
  · cases h
theorem inv_ext {c : Ck} {i : Nat} {e : Ex} {s : Stmt} (h : embS c (.ext i e) s = true) : ∃ x p n apos v cpos pos, s = .Expr (.Call (.Attribute (.Name x p) n apos) [v] [] cpos) pos ∧ (emb c (.var i) (.Name x p) && (decide (n = ("extend" : Str)) && ((apos.endLine == cpos.line) && (!isStar v && emb c e v)))) = true := by
  unfold embS at h
  split at h
  · exact ⟨_, _, _, _, _, _, _, rfl, h⟩
  · cases h
theorem inv_mov {c : Ck} {i j : Nat} {s : Stmt} (h : embS c (.mov i j) s = true) : ∃ x py y p pos, s = .Assign [.Name x py] (.Name y p) pos ∧ (decide (c.N[i]? = some x) && (locB c.ts x && emb c (.var j) (.Name y p))) = true := by
  unfold embS at h
  split at h
  · exact ⟨_, _, _, _, _, rfl, h⟩
  · cases h
theorem inv_put {c : Ck} {i : Nat} {k e : Ex} {s : Stmt} (h : embS c (.put i k e) s = true) : ∃ x p ix tp v pos, s = .Assign [.Subscript (.Name x p) ix tp] v pos ∧ (emb c (.var i) (.Name x p) && (noDisp v && (emb c k ix && emb c e v))) = true := by
  unfold embS at h
  split at h
  · exact ⟨_, _, _, _, _, _, rfl, h⟩
  · cases h
theorem inv_ifs {c : Ck} {t : Ex} {a b : Sms} {s : Stmt} (h : embS c (.ifs t a b) s = true) : ∃ z l r pos, s = .If z l r pos ∧ (emb c t z && (embSs c a l && embSs c b r)) = true := by
  unfold embS at h
  split at h
  · exact ⟨_, _, _, _, rfl, h⟩
  · cases h
theorem inv_whl {c : Ck} {t : Ex} {b : Sms} {s : Stmt} (h : embS c (.whl t b) s = true) : ∃ z l pos, s = .While z l [] pos ∧ (emb c t z && embSs c b l) = true := by
  unfold embS at h
  split at h
  · exact ⟨_, _, _, rfl, h⟩
  · cases h
theorem inv_for_ {c : Ck} {tg : Tg} {it : It} {b : Sms} {s : Stmt} (h : embS c (.for_ tg it b) s = true) : ∃ t i l pos, s = .For t i l [] pos ∧ (embT c tg t && ((embI c it i && tgOk it t) && embSs c b l)) = true := by
  unfold embS at h
  split at h
  · exact ⟨_, _, _, _, rfl, h⟩
  · cases h
theorem inv_exp {c : Ck} {e : Ex} {s : Stmt} (h : embS c (.exp e) s = true) : ∃ v pos, s = .Expr v pos ∧ (noDisp v && emb c e v) = true := by
  unfold embS at h
  split at h
  · exact ⟨_, _, rfl, h⟩
  · cases h
theorem inv_brk {c : Ck}  {s : Stmt} (h : embS c (.brk ) s = true) : ∃ pos, s = .Break pos ∧ True := by
  unfold embS at h
  split at h
  · exact ⟨_, rfl, trivial⟩
  · cases h
theorem inv_cnt {c : Ck}  {s : Stmt} (h : embS c (.cnt ) s = true) : ∃ pos, s = .Continue pos ∧ True := by
  unfold embS at h
  split at h
  · exact ⟨_, rfl, trivial⟩
  · cases h
theorem inv_pas {c : Ck}  {s : Stmt} (h : embS c (.pas ) s = true) : ∃ pos, s = .Pass pos ∧ True := by
  unfold embS at h
  split at h
  · exact ⟨_, rfl, trivial⟩
  · cases h
theorem inv_ret {c : Ck} {e : Ex} {s : Stmt} (h : embS c (.ret e) s = true) : (∃ v pos, s = .Return (some v) pos ∧ emb c e v = true) ∨ (∃ pos, s = .Return none pos ∧ e = .cst .non) := by
  unfold embS at h
  split at h
  · exact .inl ⟨_, _, rfl, h⟩
  · split at h
    · exact .inr ⟨_, rfl, rfl⟩
    · cases h
  · cases h
theorem inv_cons {c : Ck} {x : Sm} {r : Sms} {s : List Stmt} (h : embSs c (.cons x r) s = true) : ∃ y l, s = y :: l ∧ (embS c x y && embSs c r l) = true := by
  unfold embSs at h
  split at h
  · exact ⟨_, _, rfl, h⟩
  · cases h
theorem inv_nil {c : Ck} {s : List Stmt} (h : embSs c .nil s = true) : s = [] := by
  unfold embSs at h
  split at h
  · rfl
  · cases h
def SmP (x : Sm) : Prop := ∀ (c : Ck) (X : Cx) (g : Gv) (E : XK) (s : Stmt), YOk X c g E → embS c x s = true → PS X s (tS X.K g E (exe g.Γ x))
def SmsP (x : Sms) : Prop := ∀ (c : Ck) (X : Cx) (g : Gv) (E : XK) (s : List Stmt), YOk X c g E → embSs c x s = true → PSs X s (tS X.K g E (exes g.Γ x))
theorem SmP.go {x : Sm} (h : SmP x) {c : Ck} {X : Cx} {g : Gv} {E : XK} {e : Stmt} (hx : YOk X c g E) (k : embS c x e = true) : PS X e (tS X.K g E (exe g.Γ x)) := h c X g E e hx k
theorem SmsP.go {x : Sms} (h : SmsP x) {c : Ck} {X : Cx} {g : Gv} {E : XK} {e : List Stmt} (hx : YOk X c g E) (k : embSs c x e = true) : PSs X e (tS X.K g E (exes g.Γ x)) := h c X g E e hx k
theorem k_sm_set {i : Nat} {e : Ex}  : SmP (.set i e) := by
  intro c X g E s hy h
  have hx := hy.x
  obtain ⟨x, py, v, pos, rfl, h⟩ := inv_set h
  obtain ⟨h1, h2⟩ := bandE h
  obtain ⟨h2, h3⟩ := bandE h2
  obtain ⟨h3, h4⟩ := bandE h3
  refine PS.weak (ps_setV hx (of_decide_eq_true h1) h2 h3 h4) fun D σ H q => ?_
  obtain ⟨F0, B, F, S, g0, st, q⟩ := q
  exact ⟨B, F, S, st, RH.imp (OH.of q) (fun val _ q F' H' v gr r => q F' H' _ (g0.trans gr) (st.set (H1 := H) gr r)) fun _ _ z => ErW.same st.bh z⟩
theorem k_sm_setT {is : List Nat} {e : Ex}  : SmP (.setT is e) := by
  intro c X g E s hy h
  have hx := hy.x
  obtain ⟨t, v, pos, rfl, h⟩ := inv_setT h
  obtain ⟨h1, h2⟩ := bandE h
  obtain ⟨h2, h3⟩ := bandE h2
  refine PS.weak (ps_asg (s_ev e hx h3).v (pg_tg hx h1) (swS_false h2) (sws_false h2) (by cases t <;> first | rfl | exact noF h1)) fun D σ H q => ?_
  obtain ⟨F0, B, F, S, g0, st, q⟩ := q
  refine ⟨B, F, S, st, RH.imp (OH.of q) (fun val _ q F' H' v gr r => ?_) fun _ _ z => ErW.same st.bh z⟩
  obtain ⟨F2, g2, _, r2⟩ := r.keep gr
  obtain ⟨S1, e1, q⟩ := RH.got (OH.of q) (tgset_er _ _ _)
  exact ⟨B, F2, S, val.D, S1, st.grow g2, r2, e1, fun σ' s' _ => q F2 H' σ' (g0.trans g2) s'⟩
theorem k_sm_aug {i : Nat} {o : BOp} {e : Ex}  : SmP (.aug i o e) := by
  intro c X g E s hy h
  have hx := hy.x
  obtain ⟨x, p, op, v, pos, rfl, h⟩ := inv_aug h
  obtain ⟨h1, q2⟩ := bandE h
  obtain ⟨h2, q3⟩ := bandE q2
  obtain ⟨h3, h4⟩ := bandE q3
  have hn : X.N[i]? = some x := by rw [hx.n]; exact of_decide_eq_true h1
  have e1 : op = o.op := of_decide_eq_true h3
  subst e1
  obtain ⟨k1, k2⟩ := hx.ts x (loc_of h2)
  have pv := pe_lk hx h4 (s_ev e hx h4).v
  have main : ∀ (f : Int → Int → Int), (∀ i j d, augD o (.int i) (.int j) = .ok d → d = .int (f i j)) → ∀ D σ H, tS X.K g E (exe g.Γ (.aug i o e)) D σ H → tAug i (tL X.K g E e) (ipI f) D σ H := by
    intro f hf D σ H q
    obtain ⟨F0, B, F, S, g0, st, q⟩ := q
    have q : OH X.K g E F0 B D (Out.of (S.get i) fun x => Out.of (evL g.Γ e S) fun y => Out.of (augD o x y) fun v => .nx (S.set i (.fz v))) := q
    obtain ⟨a, e2, q⟩ := RH.got (OH.of q) (get_er S i)
    have e2 : S[i]? = some (.fz a) := by
      unfold Sg.get at e2
      split at e2
      · rename_i e3; cases e2; exact e3
      · cases e2
    obtain ⟨v, e3, r⟩ := st.fz i a e2
    refine ⟨v, e3, B, F, S, st, RH.imp (OH.of q) (fun b _ q F' H' w gr r2 => ?_) fun _ _ z => ErW.same st.bh z⟩
    obtain ⟨d, e4, q⟩ := RH.got (OH.of q) (augD_er o a b)
    obtain ⟨i', j', rfl, rfl, _⟩ := augD_ok e4
    obtain rfl := hf _ _ _ e4
    refine ⟨i', j', r, lr_int r2, q F' H' _ (g0.trans gr) ?_⟩
    exact StOk.set (val := .d (.int (f i' j'))) (H1 := H) st gr (show Rp X.K F' (.int (f i' j')) (.int (f i' j')) from rp_int)
  cases o with
  | add => exact PS.weak (ps_aug hx.nd hn k1 pv ip_add k2) (main _ fun i j d h => by cases h; rfl)
  | sub => exact PS.weak (ps_aug hx.nd hn k1 pv ip_sub k2) (main _ fun i j d h => by cases h; rfl)
  | _ =>
    refine PS.weak (ps_aug hx.nd hn k1 pv (ti := fun _ _ _ _ => False) (fun _ _ _ _ _ _ _ _ _ _ _ _ z => z.elim) k2) fun D σ H q => ?_
    obtain ⟨F0, B, F, S, g0, st, q⟩ := q
    obtain ⟨a, e2, q⟩ := RH.got (OH.of (r := S.get i) q) (get_er S i)
    have e2 : S[i]? = some (.fz a) := by
      unfold Sg.get at e2
      split at e2
      · rename_i e3; cases e2; exact e3
      · cases e2
    obtain ⟨v, e3, r⟩ := st.fz i a e2
    refine ⟨v, e3, B, F, S, st, RH.imp (OH.of q) (fun b _ q F' H' w gr r2 => ?_) fun _ _ z => ErW.same st.bh z⟩
    obtain ⟨d, e4, q⟩ := RH.got (OH.of q) (augD_er _ a b)
    cases e4
theorem k_sm_app {i : Nat} {e : Ex}  : SmP (.app i e) := by
  intro c X g E s hy h
  have hx := hy.x
  obtain ⟨x, p, n, apos, v, cpos, pos, rfl, h⟩ := inv_app h
  obtain ⟨h1, h2⟩ := bandE h
  obtain ⟨h2, h3⟩ := bandE h2
  obtain ⟨h3, h4⟩ := bandE h3
  obtain ⟨h4, h5⟩ := bandE h4
  have e1 : n = ("append" : Str) := of_decide_eq_true h2
  subst e1
  have h4 := notE h4
  refine PS.weak (ps_expr (pe_bm PySem.F.plainAttrs_list PySem.F.slot_list_append PySem.F.type_list_append mt_append (pe_nm hx h1) (pa_cons (s_ev e hx h5).v pa_nil (star_of h4)) rfl (few1 h4) h3 (star_of h4) rfl) rfl) fun D σ H q => ?_
  obtain ⟨F0, B, F, S, g0, st, q⟩ := q
  have q : OH X.K g E F0 B D (match S[i]? with
    | some (.own xs) => Out.of (ev g.Γ e S) fun v => if xs.length < LINE then .nx (S.set i (.own (xs ++ [v.D]))) else .bad
    | _ => .bad) := q
  split at q
  · rename_i xs eo
    obtain ⟨p, vs, e1, hp, fp, bp, r⟩ := st.own i xs eo
    refine ⟨.ref p, e1, .inl ⟨rfl, vs, SqL.of hp⟩, B, F, S, st, RH.imp (OH.of q) (fun val _ q F' H' v gr rv => ?_) fun _ _ z => ErW.same st.bh z⟩
    obtain ⟨F2, g2, _, r2⟩ := rv.keep gr
    by_cases hz : xs.length < LINE
    · rw [if_pos hz] at q
      have s2 := st.grow g2
      have f2 : F2 p = none := g2.non fp (by rw [hp]; exact fun z => nomatch z)
      refine ⟨p, vs, v, rfl, rfl, g2.h _ _ hp, by rw [← r.len, ← line_eq]; exact hz, ?_⟩
      exact q F2 _ σ ((g0.trans g2).wr f2 bp) (s2.wr eo e1 (g2.h _ _ hp) ((RpL.mono g2.f _ _ r).app (RpL.cons r2 RpL.nil)))
    · rw [if_neg hz] at q
      exact q.elim
  · exact q.elim
theorem k_sm_ext {i : Nat} {e : Ex}  : SmP (.ext i e) := by
  intro c X g E s hy h
  have hx := hy.x
  obtain ⟨x, p, n, apos, v, cpos, pos, rfl, h⟩ := inv_ext h
  obtain ⟨h1, h2⟩ := bandE h
  obtain ⟨h2, h3⟩ := bandE h2
  obtain ⟨h3, h4⟩ := bandE h3
  obtain ⟨h4, h5⟩ := bandE h4
  have e1 : n = ("extend" : Str) := of_decide_eq_true h2
  subst e1
  have h4 := notE h4
  refine PS.weak (ps_expr (pe_bm PySem.F.plainAttrs_list PySem.F.slot_list_extend PySem.F.type_list_extend mt_extend (pe_nm hx h1) (pa_cons (pe_lk hx h5 (s_ev e hx h5).v) pa_nil (star_of h4)) rfl (few1 h4) h3 (star_of h4) rfl) rfl) fun D σ H q => ?_
  obtain ⟨F0, B, F, S, g0, st, q⟩ := q
  have q : OH X.K g E F0 B D (match S[i]? with
    | some (.own xs) => Out.of (evL g.Γ e S) fun y => match y with
      | .lst zs => if xs.length + zs.length ≤ LINE then .nx (S.set i (.own (xs ++ zs))) else .bad
      | _ => .bad
    | _ => .bad) := q
  split at q
  · rename_i xs eo
    obtain ⟨p, vs, e1, hp, fp, bp, r⟩ := st.own i xs eo
    refine ⟨.ref p, e1, .inl ⟨rfl, vs, SqL.of hp⟩, B, F, S, st, RH.imp (OH.of q) (fun d _ q F2 H' v g2 lv => ?_) fun _ _ z => ErW.same st.bh z⟩
    cases d with
    | lst zs =>
      have q : OH X.K g E F0 B D (if xs.length + zs.length ≤ LINE then .nx (S.set i (.own (xs ++ zs))) else .bad) := q
      by_cases hz : xs.length + zs.length ≤ LINE
      · rw [if_pos hz] at q
        obtain ⟨b, ws, rfl, hb, r2⟩ := lv
        have s2 := st.grow g2
        have f2 : F2 p = none := g2.non fp (by rw [hp]; exact fun z => nomatch z)
        refine ⟨p, b, vs, ws, rfl, rfl, g2.h _ _ hp, hb, by rw [← r.len, ← r2.len, ← line_eq]; exact hz, ?_⟩
        exact q F2 _ σ ((g0.trans g2).wr f2 bp) (s2.wr eo e1 (g2.h _ _ hp) ((RpL.mono g2.f _ _ r).app r2))
      · rw [if_neg hz] at q
        exact q.elim
    | _ => exact q.elim
  · exact q.elim
theorem k_sm_mov {i j : Nat} : SmP (.mov i j) := by
  intro c X g E s hy h
  have hx := hy.x
  obtain ⟨x, py, y, p, pos, rfl, h⟩ := inv_mov h
  obtain ⟨h1, h2⟩ := bandE h
  obtain ⟨h2, h3⟩ := bandE h2
  have hn : X.N[i]? = some x := by rw [hx.n]; exact of_decide_eq_true h1
  obtain ⟨k1, k2⟩ := hx.ts x (loc_of h2)
  refine PS.weak (ps_set hx.nd hn k1 (pe_nm hx h3) rfl k2) fun D σ H q => ?_
  obtain ⟨F0, B, F, S, g0, st, q⟩ := q
  have q : OH X.K g E F0 B D (match S[j]? with
    | some (.own xs) => if i ≠ j then .nx ((S.set j .no).set i (.own xs)) else .bad
    | _ => .bad) := q
  split at q
  · rename_i xs eo
    by_cases hij : i ≠ j
    · rw [if_pos hij] at q
      obtain ⟨a, vs, e1, hp, fp, bp, r⟩ := st.own j xs eo
      exact ⟨.ref a, e1, q F H _ g0 (st.mov hij eo e1)⟩
    · rw [if_neg hij] at q
      exact q.elim
  · exact q.elim
theorem k_sm_put {i : Nat} {k : Ex} {e : Ex}  : SmP (.put i k e) := by
  intro c X g E s hy h
  have hx := hy.x
  obtain ⟨x, p, ix, tp, v, pos, rfl, h⟩ := inv_put h
  obtain ⟨h1, h2⟩ := bandE h
  obtain ⟨h2, h3⟩ := bandE h2
  obtain ⟨h3, h4⟩ := bandE h3
  refine PS.weak (ps_asg (s_ev e hx h4).v (pg_sub (pe_nm hx h1) (pe_lk hx h3 (s_ev k hx h3).v) set_list (plainAsg h3)) (swS_false h2) (sws_false h2) rfl) fun D σ H q => ?_
  obtain ⟨F0, B, F, S, g0, st, q⟩ := q
  have q : OH X.K g E F0 B D (match S[i]? with
    | some (.own xs) => Out.of (ev g.Γ e S) fun v => Out.of (evL g.Γ k S) fun x => Out.of x.int? fun j => Out.of (optR (ixOf xs.length j) .ok) fun n => .nx (S.set i (.own (xs.set n v.D)))
    | _ => .bad) := q
  split at q
  · rename_i xs eo
    obtain ⟨p, vs, e1, hp, fp, bp, r⟩ := st.own i xs eo
    refine ⟨B, F, S, st, RH.imp (OH.of q) (fun val _ q F' H' v gr rv => ?_) fun _ _ z => ErW.same st.bh z⟩
    obtain ⟨F2, g2, _, r2⟩ := rv.keep gr
    have s2 := st.grow g2
    refine ⟨.ref p, e1, B, F2, S, s2, RH.imp (OH.of q) (fun d _ q F3 H3 w g3 l3 => ?_) fun _ _ z => ErW.same (st.bh.trans g2.h) z⟩
    obtain ⟨j, e2, q⟩ := RH.got (OH.of q) (int_er d)
    obtain rfl := int_of e2
    obtain ⟨n, e3, q⟩ := RH.got (OH.of (r := optR (ixOf xs.length j) R.ok) q) (fun _ _ => mat_er fun _ => ok_ne)
    have e3 : ixOf xs.length j = some n := by
      cases q4 : ixOf xs.length j with
      | none => rw [q4] at e3; cases e3
      | some m => rw [q4] at e3; cases e3; rfl
    have g23 := g2.trans g3
    have s3 := st.grow g23
    have f3 : F3 p = none := g23.non fp (by rw [hp]; exact fun z => nomatch z)
    refine ⟨p, vs, j, n, rfl, lr_int l3, g23.h _ _ hp, ?_, ?_⟩
    · rw [← r.len]
      exact ixN_of e3
    · exact q F3 _ σ ((g0.trans g23).wr f3 bp) (s3.wr eo e1 (g23.h _ _ hp) ((RpL.mono g23.f _ _ r).set n (Rp.mono g3.f _ _ r2)))
  · exact q.elim
theorem k_sm_ifs {t : Ex} {a : Sms} {b : Sms} (j_a : SmsP a) (j_b : SmsP b) : SmP (.ifs t a b) := by
  intro c X g E s hy h
  have hx := hy.x
  obtain ⟨z, l, r, pos, rfl, h⟩ := inv_ifs h
  obtain ⟨h1, h2⟩ := bandE h
  obtain ⟨h2, h3⟩ := bandE h2
  refine PS.weak (ps_if (s_ev t hx h1).t (j_a.go hy h2) (j_b.go hy h3)) fun D σ H q => ?_
  obtain ⟨F0, B, F, S, g0, st, q⟩ := q
  refine ⟨B, F, S, st, RH.imp (OH.of q) (fun k _ q F' H' gr => ?_) fun _ _ z => ErW.same st.bh z⟩
  cases k with
  | true =>
    rw [if_pos rfl] at q
    exact iteT ⟨F0, B, F', S, g0.trans gr, st.grow gr, q⟩
  | false =>
    rw [if_neg Bool.false_ne_true] at q
    exact iteF ⟨F0, B, F', S, g0.trans gr, st.grow gr, q⟩
theorem k_sm_whl {t : Ex} {b : Sms} (j_b : SmsP b) : SmP (.whl t b) := by
  intro c X g E s hy h
  have hx := hy.x
  obtain ⟨z, l, pos, rfl, h⟩ := inv_whl h
  obtain ⟨h1, h2⟩ := bandE h
  refine PS.weak (ps_while hy.po (s_ev t hx h1).t (j_b.go hy h2)) fun D σ H q => ?_
  obtain ⟨F0, B, F, S, g0, st, q⟩ := q
  refine ⟨fun n σ H => ∃ F S, Grow F0 F B H ∧ StOk X.K B F H σ S ∧ OH X.K g E F0 B D (whlL (fun S => evT g.Γ t S) (fun S => exes g.Γ b S) n S), ⟨FUEL, F, S, g0, st, q⟩, ?_⟩
  rintro n σ H ⟨F, S, g0, st, q⟩
  cases n with
  | zero => exact q.elim
  | succ n =>
    refine ⟨B, F, S, st, RH.imp (OH.of q) (fun k _ q F' H' gr => ?_) fun _ _ z => ErW.same st.bh z⟩
    cases k with
    | false =>
      rw [if_neg Bool.false_ne_true] at q
      exact iteF (q F' H' σ (g0.trans gr) (st.grow gr))
    | true =>
      rw [if_pos rfl] at q
      refine iteT ⟨fun σ' H' => ∃ F S, Grow F0 F B H' ∧ StOk X.K B F H' σ' S ∧ OH X.K g E F0 B D (whlL (fun S => evT g.Γ t S) (fun S => exes g.Γ b S) n S), fun σ' H' z => ⟨n, Nat.lt_succ_self n, z⟩, F0, B, F', S, g0.trans gr, st.grow gr, ?_⟩
      replace q : OH X.K g E F0 B D (match exes g.Γ b S with
        | .nx S2 => whlL (fun S => evT g.Γ t S) (fun S => exes g.Γ b S) n S2
        | .ct S2 => whlL (fun S => evT g.Γ t S) (fun S => exes g.Γ b S) n S2
        | .bk S2 => .nx S2
        | o => o) := q
      cases e1 : exes g.Γ b S with
      | nx S2 => rw [e1] at q; exact fun F H σ gr st => ⟨F, S2, gr, st, q⟩
      | ct S2 => rw [e1] at q; exact fun F H σ gr st => ⟨F, S2, gr, st, q⟩
      | bk S2 => rw [e1] at q; exact q
      | rt val => rw [e1] at q; exact q
      | er _ _ => rw [e1] at q; exact q
      | bad => rw [e1] at q; exact q
theorem k_sm_for_ {tg : Tg} {it : It} {b : Sms} (j_b : SmsP b) : SmP (.for_ tg it b) := by
  intro c X g E s hy h
  have hx := hy.x
  obtain ⟨t, i, l, pos, rfl, h⟩ := inv_for_ h
  obtain ⟨h1, h2⟩ := bandE h
  obtain ⟨h2, h3⟩ := bandE h2
  obtain ⟨h2, hT⟩ := bandE h2
  refine PS.weak (ps_for hy.po hx.calm (s_it it hx h2 hT) (pg_tg hx h1) (j_b.go hy h3) (embI_noset h2)) fun D σ H q => ?_
  obtain ⟨F0, B, F, S, g0, st, q⟩ := q
  refine ⟨B, F, S, st, RH.imp (OH.of q) (fun xs _ q J F1 H1 g1 wk => ?_) fun _ _ z => ErW.same st.bh z⟩
  have ga := g0.trans g1
  refine ⟨fun i m σ H => m = xs.length - i ∧ i ≤ xs.length ∧ ∃ F S, Same F1 F ∧ Grow F0 F B H ∧ StOk X.K B F H σ S ∧ OH X.K g E F0 B D (forL tg (fun S => exes g.Γ b S) (xs.drop i) S), ⟨xs.length, rfl, Nat.zero_le _, F1, S, Same.refl _, g0.trans g1, st.grow g1, q⟩, ?_⟩
  rintro i m σ H ⟨rfl, hi, F, S, sF, g0, st, q⟩
  by_cases hlt : i < xs.length
  · refine .inr ⟨wk.go i H (sF.trans st.fh) hlt, fun σ' H' => ∃ F S, Same F1 F ∧ Grow F0 F B H' ∧ StOk X.K B F H' σ' S ∧ OH X.K g E F0 B D (forL tg (fun S => exes g.Γ b S) (xs.drop (i + 1)) S),
      fun σ' H' ⟨F, S, a1, a2, a3, a4⟩ => ⟨xs.length - (i + 1), by omega, rfl, hlt, F, S, a1, a2, a3, a4⟩, fun x H' y => ?_⟩
    obtain ⟨F2, dx, g2, ex, rx⟩ := wk.yld i F H x H' sF st.fh hlt y
    have ed : xs.drop i = dx :: xs.drop (i + 1) := by
      have h3 : xs[i] = dx := by
        rw [List.getElem?_eq_getElem hlt] at ex
        exact Option.some.inj ex
      rw [List.drop_eq_getElem_cons hlt, h3]
    rw [ed] at q
    have q : OH X.K g E F0 B D (Out.of (tg.set dx S) fun S1 => match exes g.Γ b S1 with
      | .nx S2 => forL tg (fun S => exes g.Γ b S) (xs.drop (i + 1)) S2
      | .ct S2 => forL tg (fun S => exes g.Γ b S) (xs.drop (i + 1)) S2
      | .bk S2 => .nx S2
      | o => o) := q
    obtain ⟨S1, e1, q⟩ := RH.got (OH.of q) (tgset_er _ _ _)
    refine ⟨B, F2, S, dx, S1, st.grow g2, rx, e1, fun σ2 s2 _ => ⟨F1, B, F2, S1, (g0.trans g2).cut ga.f (sF.trans g2.f), s2, ?_⟩⟩
    cases e2 : exes g.Γ b S1 with
    | nx S2 => rw [e2] at q; exact fun F H σ gr st => ⟨F, S2, gr.f, ga.thru gr, st, q⟩
    | ct S2 => rw [e2] at q; exact fun F H σ gr st => ⟨F, S2, gr.f, ga.thru gr, st, q⟩
    | bk S2 => rw [e2] at q; exact fun F H σ gr st => q F H σ (ga.thru gr) st
    | rt val => rw [e2] at q; exact fun F H v gr st => q F H v (ga.thru gr) st
    | er _ _ => rw [e2] at q; exact q
    | bad => rw [e2] at q; exact q
  · have ei : i = xs.length := by omega
    subst ei
    refine .inl ⟨wk.stop _ H (sF.trans st.fh) (Nat.le_refl _), ?_⟩
    rw [List.drop_length] at q
    exact q F H σ g0 st
theorem k_sm_ret {e : Ex}  : SmP (.ret e) := by
  intro c X g E s hy h
  have hx := hy.x
  rcases inv_ret h with ⟨v, pos, rfl, h⟩ | ⟨pos, rfl, rfl⟩
  · skip
    by_cases hv : ∃ i, e = .var i
    · obtain ⟨i, rfl⟩ := hv
      refine PS.weak (ps_ret (pe_nm hx h)) fun D σ H q => ?_
      obtain ⟨F0, B, F, S, g0, st, q⟩ := q
      have q : OH X.K g E F0 B D (match S[i]? with
        | some (.own xs) => .rt (.fr xs)
        | some (.fz x) => .rt (.d x)
        | _ => .bad) := q
      split at q
      · rename_i xs eo
        obtain ⟨p, vs, e1, hp, fp, bp, r⟩ := st.own i xs eo
        exact ⟨_, e1, q F H _ g0 ⟨p, vs, rfl, bp, hp, fp, r⟩⟩
      · rename_i x eo
        obtain ⟨w, e1, r⟩ := st.fz i x eo
        exact ⟨_, e1, q F H _ g0 r⟩
      · exact q.elim
    · refine PS.weak (ps_ret (s_ev e hx h).v) fun D σ H q => ?_
      obtain ⟨F0, B, F, S, g0, st, q⟩ := q
      have q : OH X.K g E F0 B D (Out.of (ev g.Γ e S) fun v => .rt v) := by
        cases e <;> first | exact q | exact absurd ⟨_, rfl⟩ hv
      exact ⟨B, F, S, st, RH.imp (OH.of q) (fun val _ q F' H' v gr r => q F' H' v (g0.trans gr) (r.back st.bh)) fun _ _ z => ErW.same st.bh z⟩
  · skip
    refine PS.weak ps_retN fun D σ H q => ?_
    obtain ⟨F0, B, F, S, g0, st, q⟩ := q
    exact q F H _ g0 (show Rp X.K F .non .non from rp_non)
theorem k_sm_exp {e : Ex}  : SmP (.exp e) := by
  intro c X g E s hy h
  have hx := hy.x
  obtain ⟨v, pos, rfl, h⟩ := inv_exp h
  obtain ⟨h1, h2⟩ := bandE h
  refine PS.weak (ps_expr (s_ev e hx h2).v (sw_false h1)) fun D σ H q => ?_
  obtain ⟨F0, B, F, S, g0, st, q⟩ := q
  exact ⟨B, F, S, st, RH.imp (OH.of q) (fun val _ q F' H' v gr r => q F' H' σ (g0.trans gr) (st.grow gr)) fun _ _ z => ErW.same st.bh z⟩
theorem k_sm_brk   : SmP (.brk ) := by
  intro c X g E s hy h
  obtain ⟨pos, rfl, h⟩ := inv_brk h
  refine PS.weak ps_break fun D σ H q => ?_
  obtain ⟨F0, B, F, S, g0, st, q⟩ := q
  exact q F H σ g0 st
theorem k_sm_cnt   : SmP (.cnt ) := by
  intro c X g E s hy h
  obtain ⟨pos, rfl, h⟩ := inv_cnt h
  refine PS.weak ps_continue fun D σ H q => ?_
  obtain ⟨F0, B, F, S, g0, st, q⟩ := q
  exact q F H σ g0 st
theorem k_sm_pas   : SmP (.pas ) := by
  intro c X g E s hy h
  obtain ⟨pos, rfl, h⟩ := inv_pas h
  refine PS.weak ps_pass fun D σ H q => ?_
  obtain ⟨F0, B, F, S, g0, st, q⟩ := q
  exact q F H σ g0 st
theorem k_sm_nev : SmP .nev := by
  intro c X g E s hy h
  refine PS.weak ps_never fun D σ H q => ?_
  obtain ⟨F0, B, F, S, g0, st, q⟩ := q
  exact q
theorem k_sms_nil   : SmsP (.nil ) := by
  intro c X g E s hy h
  obtain rfl := inv_nil h
  refine PSs.weak pss_nil fun D σ H q => ?_
  obtain ⟨F0, B, F, S, g0, st, q⟩ := q
  exact q F H σ g0 st
theorem k_sms_cons {x : Sm} {r : Sms} (i_x : SmP x) (j_r : SmsP r) : SmsP (.cons x r) := by
  intro c X g E s hy h
  obtain ⟨y, l, rfl, h⟩ := inv_cons h
  obtain ⟨h1, h2⟩ := bandE h
  refine PSs.weak (pss_cons (i_x.go hy h1) (j_r.go hy h2)) fun D σ H q => ?_
  obtain ⟨F0, B, F, S, g0, st, q⟩ := q
  refine ⟨F0, B, F, S, g0, st, ?_⟩
  have q : OH X.K g E F0 B D (match exe g.Γ x S with
    | .nx S1 => exes g.Γ r S1
    | o => o) := q
  cases e1 : exe g.Γ x S with
  | nx S2 => rw [e1] at q; exact fun F H σ gr st => ⟨F0, B, F, S2, gr, st, q⟩
  | ct S2 => rw [e1] at q; exact q
  | bk S2 => rw [e1] at q; exact q
  | rt val => rw [e1] at q; exact q
  | er _ _ => rw [e1] at q; exact q
  | bad => rw [e1] at q; exact q
theorem k_sms_frz {i : Nat} {r : Sms} (j_r : SmsP r) : SmsP (.frz i r) := by
  intro c X g E s hy h
  refine PSs.weak (j_r.go hy h) fun D σ H q => ?_
  obtain ⟨F0, B, F, S, g0, st, q⟩ := q
  obtain ⟨F2, s1, n2, st2⟩ := st.frz i
  exact ⟨F0, B, F2, frzS S i, ⟨g0.f.trans s1, st2.fh, g0.h, fun a ha => (n2 a ha).elim (fun z => g0.new a z) .inr⟩, st2, q⟩
theorem StOk.no {K : PySem.W.Frag} {B F H : Hp} {σ : Sx} {S : Sg} (s : StOk K B F H σ S) (e : Nat) (o : Option V) : StOk K B F H (σ.set e o) (S.set e .no) := by
  have back : ∀ {j : Nat} {x : Sl}, (S.set e .no)[j]? = some x → x ≠ .no → j ≠ e ∧ S[j]? = some x := fun {j x} h hx => by
    by_cases hj : e = j
    · subst hj
      have hl : e < S.length := by
        have := (List.getElem?_eq_some_iff.mp h).1
        rwa [List.length_set] at this
      rw [List.getElem?_set_self hl] at h
      exact absurd (Option.some.inj h).symm hx
    · rw [List.getElem?_set_ne hj] at h
      exact ⟨Ne.symm hj, h⟩
  have fw : ∀ {j : Nat}, j ≠ e → (σ.set e o)[j]? = σ[j]? := fun {j} h => List.getElem?_set_ne (Ne.symm h)
  exact ⟨s.bh, s.fh, by rw [List.length_set, List.length_set]; exact s.len, fun i x h => by
      obtain ⟨n, h⟩ := back h (fun z => nomatch z)
      rw [fw n]
      exact s.fz i x h, fun i xs h => by
      obtain ⟨n, h⟩ := back h (fun z => nomatch z)
      rw [fw n]
      exact s.own i xs h, fun i j xs ys p hij h1 h2 e1 e2 => by
      obtain ⟨n1, h1⟩ := back h1 (fun z => nomatch z)
      obtain ⟨n2, h2⟩ := back h2 (fun z => nomatch z)
      rw [fw n1] at e1
      rw [fw n2] at e2
      exact s.ap i j xs ys p hij h1 h2 e1 e2⟩
/-- what a suite wishes -/
def tActs (K : PySem.W.Frag) (z : String) (e : Nat) : List (Nat × Ha) → FvX.Ts
  | [], _, _, _ => fun D σ H => D.nx σ H
  | (y, .keep) :: r, a, cls, d => fun D σ H => ∃ v, σ[e]? = some (some v) ∧ tActs K z e r a cls d D (σ.set y (some v)) H
  | (y, .fld f) :: r, a, cls, d => fun D σ H => σ[e]? = some (some (.ref a)) ∧ cls = .ref (He.ga K (Str.ofString z)) ∧ ∃ (dd : Addr) (fs : List (Str × V)) (v : V), d = some dd ∧ H dd = some (.xd fs) ∧ fs.lookup (Str.ofString f) = some v ∧ tActs K z e r a cls d D (σ.set y (some v)) H
  | (y, .txt s) :: r, a, cls, d => fun D σ H => tActs K z e r a cls d D (σ.set y (some (.str ⟨s.toArray⟩))) H
theorem embTx_ok {s : Tx} {v : Expr} (h : embTx s v = true) : ∃ kd pp, v = .Constant (.str ⟨s.toArray⟩) kd pp := by
  unfold embTx at h
  split at h
  · rename_i t kd pp
    obtain rfl : t = ⟨s.toArray⟩ := of_decide_eq_true h
    exact ⟨kd, pp, rfl⟩
  · cases h
theorem act_pe {X : Cx} {c : Ck} {g : Gv} {E : XK} (hx : XOk X c g E) {e : Nat} {v : Expr} (h : emb c (.var e) v = true) {a : Addr} {oe : Obj} {pn : List (Addr × Obj)} : PE (X.suite a ((a, oe) :: pn)) v (tVar e) := by
  cases v with
  | Name n pp =>
    rw [emb] at h
    simp only [Bool.and_eq_true, Bool.not_eq_true', decide_eq_true_eq] at h
    obtain ⟨k1, k2, k3, k4⟩ := h
    exact pe_var (by show X.N[e]? = _; rw [hx.n]; exact k1) (by show Vis X.env.scope n; rw [hx.sc]; exact vis_of k2) k3 k4
  | _ => exact noF h
theorem acts_ok {X : Cx} {c : Ck} {g : Gv} {E : XK} (hx : XOk X c g E) {z : String} {e : Nat} (hz : z ∈ c.xs) (hn : c.xs ≠ []) {a : Addr} {oe : Obj} {cls : Value} {d : Option Addr} {pn : List (Addr × Obj)} (zc : Zc cls d oe) (hf : ∃ vs, oe.data = .fields vs) :
    ∀ (acts : List (Nat × Ha)) (l : List Stmt), embAc c z e acts l = true → PSs (X.suite a ((a, oe) :: pn)) l (tActs X.K z e acts a cls d)
  | [], l, h => by
    cases l with
    | nil => exact pss_nil
    | cons _ _ => exact noF h
  | (y, ha) :: r, l, h => by
    unfold embAc at h
    split at h
    · rename_i m pm v pos l
      obtain ⟨h1, h⟩ := bandE h
      obtain ⟨h2, h⟩ := bandE h
      obtain ⟨h3, h⟩ := bandE h
      obtain ⟨h4, h⟩ := bandE h
      obtain ⟨h5, h6⟩ := bandE h
      have hl : X.env.scope.names.lookup m = some .local := by rw [hx.sc]; exact of_decide_eq_true h2
      have hm : X.N[y]? = some m := by rw [hx.n]; exact of_decide_eq_true h1
      have ih := acts_ok hx hz hn (a := a) (pn := pn) zc hf r l h6
      have st : ∀ {te : TE}, PE (X.suite a ((a, oe) :: pn)) v te → PS (X.suite a ((a, oe) :: pn)) (.Assign [.Name m pm] v pos) (tAsg te (gName y)) := fun pe => ps_set (X := X.suite a ((a, oe) :: pn)) hx.nd hm (.inl hl) pe (sw_false h5) (.inr hl)
      cases ha with
      | keep => exact PSs.weak (pss_cons (st (act_pe hx h4)) ih) fun D σ H q => q
      | fld f =>
        cases v with
        | Attribute o gg pa =>
          obtain ⟨k1, k⟩ := bandE h4
          obtain ⟨k2, k⟩ := bandE k
          obtain ⟨k3, k4⟩ := bandE k
          obtain rfl : gg = Str.ofString f := of_decide_eq_true k2
          have xc := (hx.xb hn).xc z hz
          refine PSs.weak (pss_cons (st (pe_xf (X := X) (C := He.ga X.K (Str.ofString z)) ⟨xc.ga, xc.gg, xc.sb, xc.hd⟩ ((hx.xb hn).no z hz f (of_decide_eq_true k3)) zc hf (act_pe hx k1) (noCall_base k4))) ih) fun D σ H q => ?_
          obtain ⟨q1, q2, dd, fs, v, q3, q4, q5, q6⟩ := q
          exact ⟨.ref a, q1, rfl, q2, dd, fs, v, q3, q4, q5, q6⟩
        | _ => exact noF h4
      | txt s =>
        obtain ⟨kd, pp, rfl⟩ := embTx_ok h4
        exact PSs.weak (pss_cons (st pe_str) ih) fun D σ H q => q
    · cases h
theorem noCX2 {P : Program} {w : World} {outer : List Env} {H : Hp} {s : Shared} {e : Value} {s' : Shared} (h : L2.CX P w outer H s (fun _ _ _ => False) e s') : False := by
  obtain ⟨a, B, H', cls, d, _, _, _, _, _, _, _, hE⟩ := h
  exact hE
theorem XOk.tr {X : Cx} {c : Ck} {g : Gv} {E : XK} (hx : XOk X c g E) (pn : List (Addr × Obj)) (xe : Value → Shared → Prop) : XOk (X.tr pn xe) c g (fun _ _ _ => False) where
  n := hx.n
  nd := hx.nd
  sc := hx.sc
  calm := hx.calm
  hu := hx.hu
  ts := hx.ts
  con := hx.con
  fr := hx.fr
  fn := fun f n h => ⟨(hx.fn f n h).ex⟩
  ps := fun _ _ _ _ _ _ _ h => (noCX2 h).elim
  at_ := hx.at_
  me := fun z m n h => ⟨(hx.me z m n h).ex⟩
  mks := fun z n h => ⟨(hx.mks z n h).ex⟩
  xb := hx.xb
  xr := fun z n h => ⟨(hx.xr z n h).ex⟩
  ei := hx.ei
theorem k_sm_rse {z : String} {es : Exs} : SmP (.rse z es) := by
  intro c X g E s hy h
  have hx := hy.x
  unfold embS at h
  split at h
  · rename_i x p l cp pos
    obtain ⟨h1, h⟩ := bandE h
    obtain ⟨h2, h⟩ := bandE h
    obtain ⟨h3, h⟩ := bandE h
    obtain ⟨h4, h⟩ := bandE h
    obtain ⟨h5, h6⟩ := bandE h
    obtain rfl : x = Str.ofString z := of_decide_eq_true h1
    have hz : z ∈ c.xs := by simpa using h3
    have hne : c.xs ≠ [] := fun e => by rw [e] at hz; cases hz
    have xb := hx.xb hne
    obtain ⟨k1, k2, k3⟩ := glo_of hx h2
    obtain ⟨fI, fd, ps, k, i1, i2, hr, hb, F, hn, sh⟩ := (hx.xr z l.length h4).ex
    cases l with
    | nil => exact noF h5
    | cons e0 es0 =>
      have pa := s_dsP es c X g E _ hx h6
      have st := embs_stars h6
      have mk := pmk_oex (X := X) (p := p) (pos := cp) (xb.ox z hz) i1 i2 F hr hb (Paired.nil) (fun _ _ _ _ _ _ _ h => (noCX2 h).elim) k1 (xb.gl z hz) pa k2 (star_of (notE (bandE st).1)) (plain_back (e := e0) (bandE st).2)
      refine PS.weak (ps_raise hx.calm hy.tk mk) fun Dn σ H q => ?_
      obtain ⟨F0, B, F1, S, g0, s0, q⟩ := q
      refine ⟨B, F1, S, s0, RH.imp (OH.of q) (fun ds _ q F' H' vs gr r => ?_) fun _ _ z => ErW.same s0.bh z⟩
      by_cases hc : ds.length = (FvX.xNs z).length ∧ ds.all D.flat = true
      · have q : OH X.K g E F0 B Dn (if ds.length = (FvX.xNs z).length ∧ ds.all D.flat = true then .er z ds else .bad) := q
        rw [if_pos hc] at q
        have q : ErW g E B z ds := q
        have bH : Same B H' := s0.bh.trans gr.h
        have fin : ∀ (d : Addr) (fs : List (Str × V)), H' d = none → (∀ n : Str, fs.lookup n = (((FvX.xNs z).map Str.ofString).zip vs).lookup n) → E (.ref (He.ga X.K (Str.ofString z))) (some d) (upd H' d (.xd fs)) := fun d fs hd hl => by
          have sm : Same H' (upd H' d (.xd fs)) := same_upd hd
          refine q _ _ _ (bH.trans sm) (fun dd e => ?_) ?_
          · cases e
            cases hb : B d with
            | none => rfl
            | some o =>
              have := bH d o hb
              rw [hd] at this
              cases this
          · rw [hx.ei hne]
            exact ⟨hz, rfl, d, fs, vs, rfl, upd_same, hc.2, RpL.flat hc.2 r _, hc.1.symm, hl⟩
        have hlen : vs.length = ds.length := r.len.symm
        refine ⟨by rw [hlen, hc.1]; rcases sh with ⟨f, e⟩ | ⟨f, f2, e, _⟩ <;> rw [e] <;> simp, fun a ha => ?_⟩
        have ox := xb.ox z hz
        have no := xb.no z hz
        rw [List.append_nil]
        have un : ∀ {d : Addr}, upd H' a (exo a (He.ga X.K (Str.ofString z)) none) d = none → d ≠ a → H' d = none := fun {d} e n => by rw [upd_ne n] at e; exact e
        have eqH : ∀ (d : Addr) (o : HO) (fs : List (Str × V)), d ≠ a → upd (del (upd (upd (upd H' a (exo a (He.ga X.K (Str.ofString z)) none)) d o) a (exo a (He.ga X.K (Str.ofString z)) (some d))) a) d (.xd fs) = upd H' d (.xd fs) := fun d o fs n => by
          funext b
          by_cases hb : b = d
          · subst hb; rw [upd_same, upd_same]
          · rw [upd_ne hb, upd_ne hb]
            by_cases hba : b = a
            · subst hba; rw [del_same, ha]
            · rw [del_ne hba, upd_ne hba, upd_ne hb, upd_ne hba]
        rcases sh with ⟨f, e⟩ | ⟨f, f2, e, ne⟩
        · rw [e] at F fin no ⊢
          match vs, (show vs.length = 1 by rw [hlen, hc.1, e]; rfl), fin with
          | [v], _, fin =>
            refine ⟨a, _, v, rfl, ox, no f (List.mem_cons_self ..), upd_same, fun d hd hda => ⟨rfl, d, [(Str.ofString f, v)], upd_same, by rw [upd_ne hda]; exact upd_same, un hd hda, ?_⟩⟩
            rw [eqH d _ _ hda]
            exact fin d _ (un hd hda) fun n => rfl
        · rw [e] at F fin no ⊢
          match vs, (show vs.length = 2 by rw [hlen, hc.1, e]; rfl), fin with
          | [v, v2], _, fin =>
            refine ⟨a, _, v, v2, rfl, ox, no f (List.mem_cons_self ..), no f2 (List.mem_cons_of_mem _ (List.mem_cons_self ..)), upd_same, fun d hd hda => ⟨rfl, d, [(Str.ofString f2, v2), (Str.ofString f, v)], upd_same, by rw [upd_ne hda]; exact upd_same, un hd hda, ?_⟩⟩
            rw [eqH d _ _ hda]
            refine fin d _ (un hd hda) fun n => ?_
            show _ = ([(Str.ofString f, v), (Str.ofString f2, v2)] : List (Str × V)).lookup n
            rw [List.lookup_cons, List.lookup_cons, List.lookup_cons, List.lookup_cons]
            by_cases q1 : n = Str.ofString f
            · have b1 : (n == Str.ofString f) = true := by rw [q1]; simp
              have b2 : (n == Str.ofString f2) = false := by rw [q1]; simpa using ne
              rw [b1, b2]
            · have b1 : (n == Str.ofString f) = false := by simpa using q1
              rw [b1]
      · have q : OH X.K g E F0 B Dn (if ds.length = (FvX.xNs z).length ∧ ds.all D.flat = true then .er z ds else .bad) := q
        rw [if_neg hc] at q
        exact q.elim
  · cases h
theorem acts_run {K : PySem.W.Frag} {g : Gv} {E : XK} {F0 B Fx H Hx : Hp} {Dn : Ends} {z : String} {fs : List D} {e : Nat} {a dd : Addr} {cls : Value} {fsV : List (Str × V)} {vs : List V} {ex : HO} (gx : Grow F0 Fx B Hx) (hcls : cls = .ref (He.ga K (Str.ofString z))) (hdd : H dd = some (.xd fsV)) (hH : Hx = upd H a ex)
    (rx : Rp K Fx (.exc z (FvX.xNs z) fs) (.ref a)) (rl : RpL K Fx fs vs) (hl : ∀ n : Str, fsV.lookup n = (((FvX.xNs z).map Str.ofString).zip vs).lookup n) :
    ∀ (acts : List (Nat × Ha)) (σ : Sx) (S : Sg), StOk K B Fx Hx σ S → σ[e]? = some (some (.ref a)) → (∀ x ∈ acts, x.1 ≠ e) → OH K g E F0 B Dn (Out.of (actS z fs acts S) fun S1 => .nx (S1.set e .no)) →
      tActs K z e acts a cls (some dd) { nx := fun σ' H' => Dn.nx (σ'.set e none) (upd H' a ex), rt := fun _ _ => False, bk := fun _ _ => False, ct := fun _ _ => False } σ H
  | [], σ, S, st, he, _, q => by
    have q : ∀ F H σ, Grow F0 F B H → StOk K B F H σ (S.set e .no) → Dn.nx σ H := q
    show Dn.nx (σ.set e none) (upd H a ex)
    rw [← hH]
    exact q Fx Hx _ gx (st.no e none)
  | (y, ha) :: r, σ, S, st, he, hy, q => by
    have ny : y ≠ e := hy _ (List.mem_cons_self ..)
    have hy' : ∀ x ∈ r, x.1 ≠ e := fun x hx => hy x (List.mem_cons_of_mem _ hx)
    have he' : ∀ v : V, (σ.set y (some v))[e]? = some (some (.ref a)) := fun v => by rw [List.getElem?_set_ne ny]; exact he
    cases ha with
    | keep => exact ⟨.ref a, he, acts_run gx hcls hdd hH rx rl hl r _ _ (st.set (H1 := Hx) (val := .d (.exc z (FvX.xNs z) fs)) (Grow.refl st.fh) rx) (he' _) hy' q⟩
    | fld n =>
      have q : OH K g E F0 B Dn (Out.of (xflD [z] n (.exc z (FvX.xNs z) fs) >>= fun v => actS z fs r (S.set y (.fz v))) fun S1 => .nx (S1.set e .no)) := q
      cases ev : xflD [z] n (.exc z (FvX.xNs z) fs) with
      | bad => rw [ev] at q; exact q.elim
      | er c' fs' => exact absurd ev (xflD_er _ _ _ _ _)
      | ok v =>
        rw [ev] at q
        obtain ⟨z', ns', xs', e1, hz', hn, lk⟩ := xfl_ok ev
        cases e1
        obtain ⟨w, e2, rw'⟩ := zip_look rl lk
        exact ⟨he, hcls, dd, fsV, w, rfl, hdd, by rw [hl]; exact e2, acts_run gx hcls hdd hH rx rl hl r _ _ (st.set (H1 := Hx) (val := .d v) (Grow.refl st.fh) rw') (he' _) hy' q⟩
    | txt s => exact acts_run gx hcls hdd hH rx rl hl r _ _ (st.set (H1 := Hx) (val := .d (.str s)) (Grow.refl st.fh) (show Rp K Fx (.str s) (.str ⟨s.toArray⟩) by rw [Rp])) (he' _) hy' q
def hdl (K : PySem.W.Frag) (hs : List Hd) : List (Value × Nat × FvX.Ts) := hs.map fun h => (.ref (He.ga K (Str.ofString h.c)), h.e, tActs K h.c h.e h.acts)
theorem hd_run {K : PySem.W.Frag} {mg : Str → Option Value} {xs xn : List String} (xb : FvX.XB K mg xs xn) {g : Gv} {E : XK} (hei : g.ei = eiX K xs) {F0 B F1 H H2 : Hp} {Dn : Ends} {σ : Sx} {S : Sg} (g0 : Grow F0 F1 B H) (s0 : StOk K B F1 H σ S) (sm : Same H H2) {z : String} {fs : List D} {cls : Value} {d : Option Addr}
    (fr : ∀ dd, d = some dd → H dd = none) (ei : g.ei z fs cls d H2) : ∀ (hs : List Hd), (∀ h ∈ hs, h.c ∈ xs ∧ ∀ x ∈ h.acts, x.1 ≠ h.e) → OH K g E F0 B Dn (hdO hs S z fs) → FvX.wKeep K (fun cls d _ H => E cls d H) Dn (hdl K hs) cls d σ H2
  | [], _, q => by
    have q : ErW g E B z fs := q
    refine q cls d H2 (s0.bh.trans sm) (fun dd e => ?_) ei
    cases hb : B dd with
    | none => rfl
    | some o =>
      have := s0.bh dd o hb
      rw [fr dd e] at this
      cases this
  | h :: r, hm, q => by
    obtain ⟨hz, hcls, dd, fsV, vs, hd, hdd, flat, rl, len, hl⟩ : eiX K xs z fs cls d H2 := by rw [← hei]; exact ei
    subst hcls
    refine ⟨_, xb.xm z hz h.c (hm h (List.mem_cons_self ..)).1, fun hb a ha => ?_, fun hb => ?_⟩
    · have ez : z = h.c := of_decide_eq_true hb
      have q : OH K g E F0 B Dn (if h.c = z then (if h.e < S.length then Out.of (actS z fs h.acts (S.set h.e .no)) fun S1 => .nx (S1.set h.e .no) else .bad) else hdO r S z fs) := q
      rw [if_pos ez.symm] at q
      by_cases hS : h.e < S.length
      · rw [if_pos hS] at q
        subst hd
        have nd := fr dd rfl
        have na : H a = none := by
          cases e : H a with
          | none => rfl
          | some o => rw [sm a o e] at ha; cases ha
        have nda : dd ≠ a := fun e => by rw [e, ha] at hdd; cases hdd
        have fne : ∀ b o, F1 b = some o → b ≠ a ∧ b ≠ dd := fun b o e => by
          have e2 := s0.fh b o e
          exact ⟨(fun z => by rw [z, na] at e2; cases e2), (fun z => by rw [z, nd] at e2; cases e2)⟩
        have gx1 : Grow F1 (upd (upd F1 dd (.xd fsV)) a (FvX.exk a (.ref (He.ga K (Str.ofString z))) (some dd))) H (upd H2 a (FvX.exk a (.ref (He.ga K (Str.ofString z))) (some dd))) := {
          f := fun b o e => by
            obtain ⟨n1, n2⟩ := fne b o e
            rw [upd_ne n1, upd_ne n2]; exact e
          fh := fun b o e => by
            by_cases hb : b = a
            · subst hb; rw [upd_same] at e ⊢; exact e
            · rw [upd_ne hb] at e ⊢
              by_cases hb2 : b = dd
              · subst hb2; rw [upd_same] at e; rw [hdd]; exact e
              · rw [upd_ne hb2] at e
                exact sm b o (s0.fh b o e)
          h := fun b o e => by
            have hb : b ≠ a := fun z => by rw [z, na] at e; cases e
            rw [upd_ne hb]; exact sm b o e
          new := fun b hb => by
            by_cases h1 : b = a
            · subst h1; exact .inr na
            · rw [upd_ne h1] at hb
              by_cases h2 : b = dd
              · subst h2; exact .inr nd
              · rw [upd_ne h2] at hb; exact .inl hb }
        have rl' : RpL K (upd (upd F1 dd (.xd fsV)) a (FvX.exk a (.ref (He.ga K (Str.ofString z))) (some dd))) fs vs := RpL.flat flat rl _
        have rx : Rp K (upd (upd F1 dd (.xd fsV)) a (FvX.exk a (.ref (He.ga K (Str.ofString z))) (some dd))) (.exc z (FvX.xNs z) fs) (.ref a) := by
          rw [Rp]
          exact ⟨a, dd, fsV, vs, rfl, upd_same, by rw [upd_ne nda]; exact upd_same, rl', len, hl⟩
        have run := acts_run (K := K) (g := g) (E := E) (e := h.e) (g0.trans gx1) rfl hdd rfl rx rl' hl h.acts (σ.set h.e (some (.ref a))) (S.set h.e .no) ((s0.grow gx1).no h.e _) (List.getElem?_set_self (by rw [← s0.len]; exact hS)) (hm h (List.mem_cons_self ..)).2 q
        rw [← ez]
        exact run
      · rw [if_neg hS] at q
        exact q.elim
    · have ez : ¬ h.c = z := fun e => of_decide_eq_false hb e.symm
      have q : OH K g E F0 B Dn (if h.c = z then (if h.e < S.length then Out.of (actS z fs h.acts (S.set h.e .no)) fun S1 => .nx (S1.set h.e .no) else .bad) else hdO r S z fs) := q
      rw [if_neg ez] at q
      exact hd_run xb hei g0 s0 sm fr ei r (fun h' hh => hm h' (List.mem_cons_of_mem _ hh)) q
theorem embAc_ne {c : Ck} {z : String} {e : Nat} : ∀ {acts : List (Nat × Ha)} {l : List Stmt}, embAc c z e acts l = true → ∀ x ∈ acts, x.1 ≠ e
  | [], _, _, _, h => nomatch h
  | a :: r, l, h, x, hx => by
    unfold embAc at h
    split at h
    · obtain ⟨h1, h⟩ := bandE h
      obtain ⟨h2, h⟩ := bandE h
      obtain ⟨h3, h⟩ := bandE h
      obtain ⟨h4, h⟩ := bandE h
      obtain ⟨h5, h6⟩ := bandE h
      rcases List.mem_cons.mp hx with rfl | hx
      · exact of_decide_eq_true h3
      · exact embAc_ne h6 x hx
    · cases h
theorem hds_ok {X : Cx} {c : Ck} {g : Gv} {E : XK} (hx : XOk X c g E) (hn : c.xs ≠ []) : ∀ (hs : List Hd) (l : List ExceptHandler), embHs c hs l = true → FvX.HdK X l (hdl X.K hs) ∧ ∀ h ∈ hs, h.c ∈ c.xs ∧ ∀ x ∈ h.acts, x.1 ≠ h.e
  | [], l, h => by
    cases l with
    | nil => exact ⟨.nil, fun _ h => nomatch h⟩
    | cons _ _ => exact noF h
  | hd :: r, l, h => by
    unfold embHs at h
    split at h
    · rename_i x px n b₀ suite ph l
      obtain ⟨h1, h⟩ := bandE h
      obtain ⟨h2, h⟩ := bandE h
      obtain ⟨h3, h⟩ := bandE h
      obtain ⟨h4, h⟩ := bandE h
      obtain ⟨h5, h⟩ := bandE h
      obtain ⟨h6, h7⟩ := bandE h
      obtain rfl : x = Str.ofString hd.c := of_decide_eq_true h1
      obtain ⟨k1, k2, k3⟩ := glo_of hx h2
      have hz : hd.c ∈ c.xs := by simpa using h3
      obtain ⟨i1, i2⟩ := hds_ok hx hn r l h7
      refine ⟨.cons ⟨k1, k2, .inl ((hx.xb hn).gl _ hz)⟩ (by rw [hx.n]; exact of_decide_eq_true h4) (by show X.env.scope.names.lookup n = _; rw [hx.sc]; exact of_decide_eq_true h5) (fun a oe cls d pn zc hf => acts_ok hx hz hn zc hf hd.acts _ h6) i1, fun h' hh => ?_⟩
      rcases List.mem_cons.mp hh with rfl | hh
      · exact ⟨hz, embAc_ne h6⟩
      · exact i2 h' hh
    · cases h
theorem k_sm_try {x : Nat} {f : String} {es : Exs} {hs : List Hd} : SmP (.tryS x f es hs) := by
  intro c X g E s hy h
  have hx := hy.x
  unfold embS at h
  split at h
  · rename_i y py fn pf l pc pa h₀ hds pt
    obtain ⟨h1, h⟩ := bandE h
    obtain ⟨h2, h⟩ := bandE h
    obtain ⟨h3, h⟩ := bandE h
    obtain ⟨h4, h⟩ := bandE h
    obtain ⟨h5, h⟩ := bandE h
    obtain ⟨h6, h⟩ := bandE h
    obtain ⟨h7, h⟩ := bandE h
    obtain ⟨h8, h9⟩ := bandE h
    obtain rfl : fn = Str.ofString f := of_decide_eq_true h3
    obtain ⟨k1, k2, k3⟩ := glo_of hx h4
    have hne : c.xs ≠ [] := fun e => by rw [e] at h8; cases h8
    obtain ⟨a, fd, ps, k, dvs, ds, sp, m1, m2, hr, hb, hd, F, hsp⟩ := (hx.fn f l.length h5).ex
    have hn : X.N[x]? = some y := by rw [hx.n]; exact of_decide_eq_true h1
    have hl : X.env.scope.names.lookup y = some .local := by rw [hx.sc]; exact of_decide_eq_true h2
    obtain ⟨hdk, hdm⟩ := hds_ok hx hne hs (h₀ :: hds) h9
    cases l with
    | nil => exact noF h6
    | cons e0 es0 =>
      have st := embs_stars h7
      have body : ∀ (W : WX) (pn : List (Addr × Obj)) (xe : Value → Shared → Prop), Takes (X.tr pn xe) W → PassesOwn (model X.prog X.w) X.A X.env xe → PSs (X.tr pn xe) [.Assign [.Name y py] (.Call (.Name (Str.ofString f) pf) (e0 :: es0) [] pc) pa]
          (fun Dn σ H => tDs X.K g (fun _ _ _ => False) es σ H fun vs H1 => sp (vs ++ dvs) H1 (fun v H2 => Dn.nx (σ.set x (some v)) H2) (fun cls d H2 => W cls d σ H2)) := fun W pn xe tk po => by
        have pa' := s_dsP es c (X.tr pn xe) g _ _ (hx.tr pn xe) h7
        have pcall := pe_callSD (X := X.tr pn xe) (p := pf) (pos := pc) F hr k1 m1 m2 hb hd (fun σ => passAt tk σ) pa' k2 (star_of (notE (bandE st).1)) (plain_back (e := e0) (bandE st).2)
        exact PSs.weak (pss_cons (ps_set (X := X.tr pn xe) hx.nd hn (.inl hl) pcall rfl (.inr hl)) pss_nil) fun Dn σ H q => q
      refine PS.weak (FvX.ps_try_keep hy.st hy.fr hy.nx hx.nd hy.tk body hdk) fun Dn σ H q => ?_
      obtain ⟨F0, B, F1, S, g0, s0, q⟩ := q
      have q : OH X.K g E F0 B Dn (Out.of (evs g.Γ es S).noEr fun xs => tryO hs x S (g.Γ f xs)) := q
      refine ⟨B, F1, S, s0, ?_⟩
      cases ev : evs g.Γ es S with
      | bad => rw [ev] at q; exact q.elim
      | er _ _ => rw [ev] at q; exact q.elim
      | ok ds' =>
        rw [ev] at q
        have q : OH X.K g E F0 B Dn (tryO hs x S (g.Γ f ds')) := q
        intro F' H' vs gr r
        refine hsp vs H' _ _ ?_ ⟨F', ds', gr.fh, r, ?_⟩
        · rw [← r.len]; exact evs_len h7 ev
        · cases er : g.Γ f ds' with
          | bad => rw [er] at q; exact q.elim
          | ok val =>
            rw [er] at q
            intro F2 H2 v g2 r2
            exact q F2 H2 _ (g0.trans (gr.trans g2)) (s0.set (H1 := H) (gr.trans g2) (r2.back gr.h))
          | er z fs =>
            rw [er] at q
            intro cls d H2 sm fr ei
            exact hd_run (hx.xb hne) (hx.ei hne) g0 s0 (gr.h.trans sm) (fun dd e => by
              cases hb : H dd with
              | none => rfl
              | some o =>
                have := gr.h dd o hb
                rw [fr dd e] at this
                cases this) ei hs hdm q
  · cases h
mutual
theorem s_smP : ∀ x : Sm, SmP x
  | .set i e => k_sm_set 
  | .setT is e => k_sm_setT 
  | .aug i o e => k_sm_aug 
  | .app i e => k_sm_app 
  | .ext i e => k_sm_ext 
  | .mov i j => k_sm_mov 
  | .put i k e => k_sm_put 
  | .ifs t a b => k_sm_ifs (s_smsP a) (s_smsP b)
  | .whl t b => k_sm_whl (s_smsP b)
  | .for_ tg it b => k_sm_for_ (s_smsP b)
  | .ret e => k_sm_ret 
  | .exp e => k_sm_exp 
  | .brk  => k_sm_brk 
  | .cnt  => k_sm_cnt 
  | .nev => k_sm_nev
  | .rse z es => k_sm_rse
  | .tryS x f es hs => k_sm_try
  | .fst _ _ _ => fun _ _ _ _ _ _ h => noF h
  | .ini _ _ => fun _ _ _ _ _ _ h => noF h
  | .pas  => k_sm_pas 
theorem s_smsP : ∀ x : Sms, SmsP x
  | .nil  => k_sms_nil 
  | .cons x r => k_sms_cons (s_smP x) (s_smsP r)
  | .frz i r => k_sms_frz (s_smsP r)
end
theorem s_sms (x : Sms) {c : Ck} {X : Cx} {g : Gv} {E : XK} {s : List Stmt} (hy : YOk X c g E) (h : embSs c x s = true) : PSs X s (tS X.K g E (exes g.Γ x)) := s_smsP x c X g E s hy h
end
end Fv
end
section
set_option maxHeartbeats 400000
namespace Fv
open PySem PySem.Spec PyProof.Rows L2

noncomputable section
def runA (Γ : Fns) (d : Df) (xs : List D) : R Val := (exes Γ d.body (xs.map Sl.fz ++ List.replicate (d.nl - d.np) Sl.no)).val
def mirN (defs : List (String × Df)) : Nat → Fns
  | 0, _, _ => .bad
  | k + 1, f, xs => optR (defs.lookup f) fun d => run (mirN defs k) d xs
abbrev gN (defs : List (String × Df)) (ei : EIs) (k : Nat) : Gv := ⟨mirN defs k, ei⟩
end
theorem mirN_run {defs : List (String × Df)} {k : Nat} {f : String} {d : Df} (h : defs.lookup f = some d) (xs : List D) : mirN defs (k + 1) f xs = run (mirN defs k) d xs := by
  show optR (defs.lookup f) _ = _
  rw [h]; rfl

def spD (K : PySem.W.Frag) (g : Gv) (d : Df) : Sp := fun vs H Q E => vs.length = d.np ∧ ∃ F ds, Same F H ∧ RpL K F ds vs ∧ RH (runA g.Γ d ds) (fun val => ∀ F' H' v, Grow F F' H H' → VR K F' H H' val v → Q v H') (ErW g E H)
/-- a def of the module, called with n arguments -/
structure FnM (P : Program) (w : World) (K : PySem.W.Frag) (mg : Str → Option Value) (base : Heap) (k : Nat) (g : Gv) (f : String) (n : Nat) : Prop where
  ex : ∃ (a : Addr) (fd : FuncData) (ps : List Str) (dvs : List V) (ds : List Value) (sp : Sp), mg (Str.ofString f) = some (.ref a) ∧ PySem.W.keepIn K (.ref a) = true ∧ Binds K fd ps ds ∧ Vals dvs ds ∧
    FnOk P w K mg base (L2.CX P w) k a fd ps sp ∧ ∀ vs H Q E, vs.length = n → spF K g f vs H Q E → sp (vs ++ dvs) H Q E
/-- a method of a class of the module, called with n arguments -/
structure MetM (P : Program) (w : World) (K : PySem.W.Frag) (mg : Str → Option Value) (base : Heap) (k : Nat) (g : Gv) (c m : String) (n : Nat) : Prop where
  ex : ∃ (f : Addr) (fd : FuncData) (ps : List Str) (dvs : List V) (ds : List Value) (sp : Sp), Cls K (He.ga K (Str.ofString c)) ∧ Meth K (He.ga K (Str.ofString c)) (Str.ofString m) f ∧ Binds K fd ps ds ∧ Vals dvs ds ∧
    FnOk P w K mg base (L2.CX P w) k f fd ps sp ∧ ∀ vs H Q E, vs.length = n + 1 → spF K g (c ++ "." ++ m) vs H Q E → sp (vs ++ dvs) H Q E
/-- a class of the module, made with n arguments: its __init__ at level k at most -/
structure MkM (P : Program) (w : World) (K : PySem.W.Frag) (mg : Str → Option Value) (base : Heap) (k : Nat) (g : Gv) (c : String) (n : Nat) : Prop where
  ex : ∃ (f : Addr) (fd : FuncData) (ps : List Str) (j : Nat) (dvs : List V) (ds : List Value) (sp : Sp), j + 1 ≤ k ∧ L2.Mk K (He.ga K (Str.ofString c)) f ∧ mg (Str.ofString c) = some (.ref (He.ga K (Str.ofString c))) ∧ Binds K fd ps ds ∧ Vals dvs ds ∧
    FnOk P w K mg base (L2.CX P w) j f fd ps sp ∧ ∀ vs H Q E, vs.length = n + 1 → spI K g c vs H Q E → sp (vs ++ dvs) H Q E
/-- an exception class of the module that may be raised -/
structure RsM (P : Program) (w : World) (K : PySem.W.Frag) (mg : Str → Option Value) (base : Heap) (k : Nat) (z : String) (n : Nat) : Prop where
  ex : ∃ (fI : Addr) (fd : FuncData) (ps : List Str) (j : Nat), j + 1 ≤ k ∧ PySem.W.findIn K (.ref (He.ga K (Str.ofString z))) "__init__" = some (some (.ref fI)) ∧ PySem.W.typeIn K (.ref fI) = some (.type "function") ∧ Binds K fd ps [] ∧
    FnOk P w K mg base (L2.CX P w) j fI fd ps (spX K (FvX.xNs z)) ∧ n = (FvX.xNs z).length ∧ ((∃ f, FvX.xNs z = [f]) ∨ ∃ f f2, FvX.xNs z = [f, f2] ∧ Str.ofString f ≠ Str.ofString f2)
/-- what a def's body needs of the module -/
structure ModOk (P : Program) (w : World) (K : PySem.W.Frag) (mg : Str → Option Value) (base : Heap) (k : Nat) (g : Gv) (c : Ck) : Prop where
  con : ∀ x v, c.G.lookup x = some v → ∃ u, mg x = some u ∧ (match v with | .int i => RelV (.int i) u | .str s => RelV (.str s) u)
  fr : ∀ x, c.fr.contains x = true → mg x = none
  fn : ∀ f n, c.fn.contains (f, n) = true → FnM P w K mg base k g f n
  at_ : ∀ z n, c.at_.contains (z, n) = true → Cls K (He.ga K (Str.ofString z)) ∧ NoAttr K (He.ga K (Str.ofString z)) (Str.ofString n)
  me : ∀ z m n, c.me.contains (z, m, n) = true → MetM P w K mg base k g z m n
  mks : ∀ z n, c.mks.contains (z, n) = true → MkM P w K mg base k g z n
  xb : c.xs ≠ [] → FvX.XB K mg c.xs c.xn
  xr : ∀ z n, c.xr.contains (z, n) = true → RsM P w K mg base k z n
  ei : c.xs ≠ [] → g.ei = eiX K c.xs
section
variable {P : Program} {w : World} {K : PySem.W.Frag} {mg : Str → Option Value} {base : Heap} {x qual : Str} {params : Arguments} {body : List Stmt} {scope : Scope} {dvs : List V} {kws : List (Str × V)} {f : Addr} {fd : FuncData} {c : Ck} {g : Gv} {k : Nat}
theorem starts {N : List Str} {vs : List V} {ds : List D} {F H : Hp} {d : Df} (hl : vs.length = d.np) (hN : N.length = d.nl) (sF : Same F H) (r : RpL K F ds vs) : StOk K H F H (L2.start N vs) (ds.map Sl.fz ++ List.replicate (d.nl - d.np) Sl.no) where
  bh := Same.refl H
  fh := sF
  len := by
    unfold L2.start
    rw [List.length_append, List.length_append, List.length_map, List.length_map, List.length_replicate, List.length_replicate, r.len, hl, hN]
  fz := fun i y h => by
    by_cases hi : i < ds.length
    · rw [List.getElem?_append_left (by rw [List.length_map]; exact hi), List.getElem?_map] at h
      cases q : ds[i]? with
      | none => rw [q] at h; cases h
      | some z =>
        rw [q] at h
        cases h
        obtain ⟨v, e, rv⟩ := r.get q
        refine ⟨v, ?_, rv⟩
        unfold L2.start
        rw [List.getElem?_append_left (by rw [List.length_map, ← r.len]; exact hi), List.getElem?_map, e]
        rfl
    · rw [List.getElem?_append_right (by rw [List.length_map]; omega), List.getElem?_replicate] at h
      split at h <;> cases h
  own := fun i ys h => by
    by_cases hi : i < ds.length
    · rw [List.getElem?_append_left (by rw [List.length_map]; exact hi), List.getElem?_map] at h
      cases q : ds[i]? with
      | none => rw [q] at h; cases h
      | some z => rw [q] at h; cases h
    · rw [List.getElem?_append_right (by rw [List.length_map]; omega), List.getElem?_replicate] at h
      split at h <;> cases h
  ap := fun i j ys zs p _ h _ _ _ => by
    by_cases hi : i < ds.length
    · rw [List.getElem?_append_left (by rw [List.length_map]; exact hi), List.getElem?_map] at h
      cases q : ds[i]? with
      | none => rw [q] at h; cases h
      | some z => rw [q] at h; cases h
    · rw [List.getElem?_append_right (by rw [List.length_map]; omega), List.getElem?_replicate] at h
      split at h <;> cases h
theorem FnM.at_ {X : Cx} {f : String} {n : Nat} (h : FnM X.prog X.w X.K X.mg X.base k g f n) (hr : Room k X.A) : FnAt X g f n := by
  obtain ⟨a, fd, ps, dvs, ds, sp, h1, h2, h3, h4, h5, h6⟩ := h.ex
  exact ⟨⟨a, fd, ps, k, dvs, ds, sp, h1, h2, hr, h3, h4, h5, h6⟩⟩
theorem MetM.at_ {X : Cx} {z m : String} {n : Nat} (h : MetM X.prog X.w X.K X.mg X.base k g z m n) (hr : Room k X.A) : MetAt X g z m n := by
  obtain ⟨f, fd, ps, dvs, ds, sp, h1, h2, h3, h4, h5, h6⟩ := h.ex
  exact ⟨⟨f, fd, ps, k, dvs, ds, sp, h1, h2, hr, h3, h4, h5, h6⟩⟩
theorem MkM.at_ {X : Cx} {z : String} {n : Nat} (h : MkM X.prog X.w X.K X.mg X.base k g z n) (hr : Room k X.A) : MkAt X g z n := by
  obtain ⟨f, fd, ps, j, dvs, ds, sp, h0, h1, h2, h3, h4, h5, h6⟩ := h.ex
  exact ⟨⟨f, fd, ps, j, dvs, ds, sp, h1, h2, hr.mono h0, h3, h4, h5, h6⟩⟩
theorem RsM.at_ {X : Cx} {z : String} {n : Nat} (h : RsM X.prog X.w X.K X.mg X.base k z n) (hr : Room k X.A) : RsAt X z n := by
  obtain ⟨fI, fd, ps, j, h0, h1, h2, h3, h4, h5, h6⟩ := h.ex
  exact ⟨⟨fI, fd, ps, j, h1, h2, hr.mono h0, h3, h4, h5, h6⟩⟩
theorem isIni_of {b : Sms} {l : List Stmt} (h : embSs c b l = true) : isIni b = false := by
  cases b with
  | nil => rfl
  | frz i r => rfl
  | cons s r =>
    cases s with
    | fst cs n e =>
      obtain ⟨y, l', rfl, h2⟩ := inv_cons h
      exact noF (bandE h2).1
    | ini b es =>
      obtain ⟨y, l', rfl, h2⟩ := inv_cons h
      exact noF (bandE h2).1
    | _ => rfl
/-- a def does what its mirror says -/
theorem fn_ok {N ps : List Str} {d : Df} (F : FunD K x qual params body scope dvs kws f fd) (S : FnScope N ps scope) (hN : c.N = N) (hsc : c.sc = scope) (hts : c.ts = scope) (m : ModOk P w K mg base k g c) (hb : embSs c d.body body = true) (hnl : N.length = d.nl) (hnp : ps.length = d.np) :
    FnOk P w K mg base (L2.CX P w) (k + 1) f fd ps (spD K g d) := by
  refine F.ok S (fun vs H Q E h => h.1.trans hnp.symm) fun cdv A outer s H vs Q E hr h => ?_
  obtain ⟨hl, F, ds, sF, rp, q⟩ := h
  have tk : Takes (cxOf (L2.CX P w) P w K mg base N qual scope f cdv A outer s H E) (fun cls d _ H => E cls d H) := takes_of rfl rfl rfl rfl
  have hy : YOk (cxOf (L2.CX P w) P w K mg base N qual scope f cdv A outer s H E) c g E := {
    x := {
      n := hN.symm
      nd := S.nd
      sc := hsc.symm
      calm := rfl
      hu := by have := hr.un; show (A.deeper _).units + 64 < cLine; omega
      ts := fun y hy => ⟨by rw [hts] at hy; exact hy, .inl rfl⟩
      con := m.con
      fr := m.fr
      fn := fun f n h => (m.fn f n h).at_ hr
      ps := passes_call tk fun _ _ _ _ h => h
      at_ := m.at_
      me := fun z n j h => (m.me z n j h).at_ hr
      mks := fun z n h => (m.mks z n h).at_ hr
      xb := m.xb
      xr := fun z n h => (m.xr z n h).at_ hr
      ei := m.ei }
    po := passes_of rfl
    tk := tk
    st := rfl
    fr := rfl
    nx := rfl }
  refine ⟨_, s_sms d.body hy hb, F, H, F, _, Grow.refl sF, starts hl hnl sF rp, ?_⟩
  have q : RH (exes g.Γ d.body (ds.map Sl.fz ++ List.replicate (d.nl - d.np) Sl.no)).val (fun val => ∀ F' H' v, Grow F F' H H' → VR K F' H H' val v → Q v H') (ErW g E H) := q
  cases e : exes g.Γ d.body (ds.map Sl.fz ++ List.replicate (d.nl - d.np) Sl.no) with
  | nx S => rw [e] at q; exact fun F' H' σ gr st => q F' H' _ gr (show Rp K F' .non .non from rp_non)
  | rt val => rw [e] at q; exact q
  | bk S => rw [e] at q; exact q.elim
  | ct S => rw [e] at q; exact q.elim
  | er _ _ => rw [e] at q; exact q
  | bad => rw [e] at q; exact q.elim
/-- .. by its name, with n written arguments -/
theorem fn_m {defs : List (String × Df)} {ei : EIs} {name : String} {N ps : List Str} {d : Df} {n km : Nat} (F : FunD K x qual params body scope dvs kws f fd) (hmg : mg (Str.ofString name) = some (.ref f)) (S : FnScope N ps scope) (hN : c.N = N) (hsc : c.sc = scope) (hts : c.ts = scope)
    (m : ModOk P w K mg base k (gN defs ei km) c) (hb : embSs c d.body body = true) (hnl : N.length = d.nl) (hnp : ps.length = d.np) (hd : defs.lookup name = some d) (hn : n ≤ d.np ∧ d.np ≤ n + d.dfl.length)
    (hdv : ∀ F : Hp, RpL K F d.dfl dvs) (b : ∃ ds, Vals (dvs.drop (n + d.dfl.length - d.np)) ds ∧ Binds K fd ps ds) : FnM P w K mg base (k + 1) (gN defs ei (km + 1)) name n := by
  obtain ⟨ds, hv, hb'⟩ := b
  refine ⟨f, fd, ps, _, ds, _, hmg, F.kp, hb', hv, fn_ok F S hN hsc hts m hb hnl hnp, fun vs H Q E hl h => ?_⟩
  obtain ⟨Fh, xs, sF, rp, q⟩ := h
  have hx : xs.length = n := rp.len.trans hl
  have dl : d.dfl.length = dvs.length := (hdv Fh).len
  refine ⟨?_, Fh, xs ++ d.dfl.drop (n + d.dfl.length - d.np), sF, rp.app ((hdv Fh).drop _), ?_⟩
  · rw [List.length_append, List.length_drop, hl, ← dl]
    omega
  · have q : RH (mirN defs (km + 1) name xs) (fun val => ∀ F' H' v, Grow Fh F' H H' → VR K F' H H' val v → Q v H') (ErW (gN defs ei (km + 1)) E H) := q
    rw [mirN_run hd] at q
    unfold run at q
    rw [if_neg (by rw [isIni_of hb]; exact Bool.false_ne_true), hx, if_pos hn] at q
    exact q
/-- no defaults -/
theorem fn_m0 {defs : List (String × Df)} {ei : EIs} {name : String} {N ps : List Str} {d : Df} {km : Nat} (F : FunD K x qual params body scope [] kws f fd) (hmg : mg (Str.ofString name) = some (.ref f)) (S : FnScope N ps scope) (hN : c.N = N) (hsc : c.sc = scope) (hts : c.ts = scope)
    (m : ModOk P w K mg base k (gN defs ei km) c) (hb : embSs c d.body body = true) (hnl : N.length = d.nl) (hnp : ps.length = d.np) (hd : defs.lookup name = some d) (hdf : d.dfl = [])
    (b : Binds K fd ps []) : FnM P w K mg base (k + 1) (gN defs ei (km + 1)) name d.np :=
  fn_m F hmg S hN hsc hts m hb hnl hnp hd ⟨Nat.le_refl _, by rw [hdf]; exact Nat.le_refl _⟩ (fun F => by rw [hdf]; exact RpL.nil) ⟨[], by rw [List.drop_nil]; exact .nil, b⟩
end
end Fv
end
section
set_option maxHeartbeats 4000000
namespace FvX
open PySem PySem.Spec L2
open PyProof.Rows hiding St
/-- the text of such an __init__: self, the field's parameter -/
def xiB (sc : Scope) (N : List Str) (f : Str) : List Stmt → Bool
  | [.Expr (.Call (.Attribute (.Name x _) n apos) [.Name s _, .Constant (.str _) _ _] [] pos) _, .Assign [.Attribute (.Name s2 _) g _] (.Name y _) _] =>
    decide (x = ("ScoreError" : Str)) && (decide (n = ("__init__" : Str)) && (decide (s2 = s) && (decide (N = [s, y]) && (decide (g = f) && ((apos.endLine == pos.line) && (decide (sc.names.lookup x = some .globalImplicit) && (decide (sc.names.lookup s = some .local) && (decide (sc.names.lookup y = some .local) &&
      (!(s == ("__debug__" : Str)) && (!(s == ("__classdict__" : Str)) && (!(y == ("__debug__" : Str)) && !(y == ("__classdict__" : Str)))))))))))))
  | _ => false
/-- .. of two -/
def xiB2 (sc : Scope) (N : List Str) (f f2 : Str) : List Stmt → Bool
  | [.Expr (.Call (.Attribute (.Name x _) n apos) [.Name s _, .Constant (.str _) _ _] [] pos) _, .Assign [.Attribute (.Name s2 _) g _] (.Name y _) _, .Assign [.Attribute (.Name s3 _) g2 _] (.Name z _) _] =>
    decide (x = ("ScoreError" : Str)) && (decide (n = ("__init__" : Str)) && (decide (s2 = s) && (decide (s3 = s) && (decide (N = [s, y, z]) && (decide (g = f) && (decide (g2 = f2) && ((apos.endLine == pos.line) && (decide (sc.names.lookup x = some .globalImplicit) && (decide (sc.names.lookup s = some .local) && (decide (sc.names.lookup y = some .local) && (decide (sc.names.lookup z = some .local) &&
      (!(s == ("__debug__" : Str)) && (!(s == ("__classdict__" : Str)) && (!(y == ("__debug__" : Str)) && (!(y == ("__classdict__" : Str)) && (!(z == ("__debug__" : Str)) && !(z == ("__classdict__" : Str))))))))))))))))))
  | _ => false
theorem vis_l {sc : Scope} {x : Str} (h : sc.names.lookup x = some .local) : Vis sc x := .inl h
section
variable {P : Program} {w : World} {K : PySem.W.Frag} {mg : Str → Option Value} {base : Heap} {k : Nat} {x qual : Str} {params : Arguments} {body : List Stmt} {scope : Scope} {kws : List (Str × V)} {f CS : Addr} {fd : FuncData} {N : List Str} {fl : Str}
theorem init1 (F : FunD K x qual params body scope [] kws f fd) (S : FnScope N N scope) (hb : xiB scope N fl body = true) (hm : mg "ScoreError" = some (.ref CS)) (r : SiC K CS) : FnOk P w K mg base (L2.CX P w) (k + 1) f fd N (spX1 K fl) := by
  unfold xiB at hb
  split at hb
  · rename_i x1 p1 n apos s p2 txt kd p3 pos p4 s2 p5 g p6 y p7 p8
    simp only [Bool.and_eq_true, decide_eq_true_eq, Bool.not_eq_true'] at hb
    obtain ⟨rfl, rfl, rfl, rfl, rfl, hl, h1, h2, h3, h4, h5, h6, h7⟩ := hb
    refine F.ok S (fun vs H Q E h => by obtain ⟨a, C, v, rfl, _⟩ := h; rfl) fun cdv A outer st H vs Q E hr h => ?_
    obtain ⟨a, C, v, rfl, T, hno, ea, q⟩ := h
    have e1 : PE (cxOf (L2.CX P w) P w K mg base [s2, y] qual scope f cdv A outer st H E) (.Name s2 p2) (tVar 0) := pe_var rfl (vis_l h2) h4 h5
    have e2 : PE (cxOf (L2.CX P w) P w K mg base [s2, y] qual scope f cdv A outer st H E) (.Name s2 p5) (tVar 0) := pe_var rfl (vis_l h2) h4 h5
    have e3 : PE (cxOf (L2.CX P w) P w K mg base [s2, y] qual scope f cdv A outer st H E) (.Name y p7) (tVar 1) := pe_var rfl (vis_l h3) h6 h7
    have e0 : PE (cxOf (L2.CX P w) P w K mg base [s2, y] qual scope f cdv A outer st H E) (.Name "ScoreError" p1) (tC (.ref CS)) := pe_glob h1 hm rfl
    have ht : eval (.Call (.Attribute (.Name "ScoreError" p1) "__init__" apos) [.Name s2 p2, .Constant (.str txt) kd p3] [] pos) (cxOf (L2.CX P w) P w K mg base [s2, y] qual scope f cdv A outer st H E).env = _ := Fv.meth_form rfl hl rfl (show (2 : Nat) < 30 by decide)
    refine ⟨_, pss_cons (ps_expr (pe_seinit e0 r (pa_cons e1 (pa_cons pe_str pa_nil)) rfl rfl ht)) (pss_cons (ps_ost e2 e3) pss_nil), ?_⟩
    exact ⟨rfl, .ref a, rfl, a, C, [.str txt], rfl, show (1 : Nat) ≤ 1000 by decide, T, ea, v, rfl, .ref a, rfl, a, C, rfl, T, hno, .inl ⟨ea, fun dx n ne => q dx n ne⟩⟩
  · cases hb
theorem init2 {fl2 : Str} (F : FunD K x qual params body scope [] kws f fd) (S : FnScope N N scope) (hb : xiB2 scope N fl fl2 body = true) (hm : mg "ScoreError" = some (.ref CS)) (r : SiC K CS) : FnOk P w K mg base (L2.CX P w) (k + 1) f fd N (spX2 K fl fl2) := by
  unfold xiB2 at hb
  split at hb
  · rename_i x1 p1 n apos s p2 txt kd p3 pos p4 s2 p5 g p6 y p7 p8 s3 p9 g2 p10 z p11 p12
    simp only [Bool.and_eq_true, decide_eq_true_eq, Bool.not_eq_true'] at hb
    obtain ⟨rfl, rfl, rfl, rfl, rfl, rfl, rfl, hl, h1, h2, h3, h3', h4, h5, h6, h7, h8, h9⟩ := hb
    refine F.ok S (fun vs H Q E h => by obtain ⟨a, C, v, v2, rfl, _⟩ := h; rfl) fun cdv A outer st H vs Q E hr h => ?_
    obtain ⟨a, C, v, v2, rfl, T, hno, hno2, ea, q⟩ := h
    have e1 : ∀ p, PE (cxOf (L2.CX P w) P w K mg base [s3, y, z] qual scope f cdv A outer st H E) (.Name s3 p) (tVar 0) := fun p => pe_var rfl (vis_l h2) h4 h5
    have e3 : PE (cxOf (L2.CX P w) P w K mg base [s3, y, z] qual scope f cdv A outer st H E) (.Name y p7) (tVar 1) := pe_var rfl (vis_l h3) h6 h7
    have e4 : PE (cxOf (L2.CX P w) P w K mg base [s3, y, z] qual scope f cdv A outer st H E) (.Name z p11) (tVar 2) := pe_var rfl (vis_l h3') h8 h9
    have e0 : PE (cxOf (L2.CX P w) P w K mg base [s3, y, z] qual scope f cdv A outer st H E) (.Name "ScoreError" p1) (tC (.ref CS)) := pe_glob h1 hm rfl
    have ht : eval (.Call (.Attribute (.Name "ScoreError" p1) "__init__" apos) [.Name s3 p2, .Constant (.str txt) kd p3] [] pos) (cxOf (L2.CX P w) P w K mg base [s3, y, z] qual scope f cdv A outer st H E).env = _ := Fv.meth_form rfl hl rfl (show (2 : Nat) < 30 by decide)
    refine ⟨_, pss_cons (ps_expr (pe_seinit e0 r (pa_cons (e1 _) (pa_cons pe_str pa_nil)) rfl rfl ht)) (pss_cons (ps_ost (e1 _) e3) (pss_cons (ps_ost (e1 _) e4) pss_nil)), ?_⟩
    refine ⟨rfl, .ref a, rfl, a, C, [.str txt], rfl, show (1 : Nat) ≤ 1000 by decide, T, ea, v, rfl, .ref a, rfl, a, C, rfl, T, hno, .inl ⟨ea, fun dx n ne => ?_⟩⟩
    refine ⟨v2, rfl, .ref a, rfl, a, C, rfl, T, hno2, .inr ⟨dx, [(g, v)], upd_same, by rw [upd_ne ne]; exact upd_same, show (1 : Nat) ≤ 900 by decide, ?_⟩⟩
    have e : upd (upd (upd H dx (exd dx [(g, v)])) a (exo a C (some dx))) dx (exd dx [(g2, v2), (g, v)]) = upd (upd H dx (exd dx [(g2, v2), (g, v)])) a (exo a C (some dx)) := by
      funext b
      by_cases hb : b = dx
      · subst hb
        rw [upd_same, upd_ne ne, upd_same]
      · rw [upd_ne hb]
        by_cases ha : b = a
        · subst ha
          rw [upd_same, upd_same]
        · rw [upd_ne ha, upd_ne ha, upd_ne hb, upd_ne hb]
    show Q .non _
    rw [e]
    exact q dx n ne
  · cases hb
end
end FvX
end
section
set_option maxHeartbeats 400000
namespace Fv
open PySem PySem.Spec PyProof.Rows L2 ClX
section
variable {X : Cx} {o e : Expr} {es : List Expr} {ta : TE} {t : TA} {m : Str} {C f : Addr} {mc : Value} {fd : FuncData} {ps : List Str} {ds : List Value} {dvs : List V} {sp : Sp} {CX : CXT} {E : XK} {k : Nat} {apos pos : Pos}
/-- C.m(..), m a def of the class, self among the arguments -/
theorem pe_ccall {pl : Sem Bool} (he : PE X o ta) (r : CRead X.K C mc) (cv : CVal X.K C mc m (.ref f) (.ref f)) (kp : PySem.W.keepIn X.K (.ref f) = true) (F : FnOk X.prog X.w X.K X.mg X.base CX k f fd ps sp) (hr : Room k X.A) (hb : Binds X.K fd ps ds) (hd : Vals dvs ds) (hx : Passes CX X E) (ha : PA X (e :: es) t)
    (hst : starEach (e :: es) X.env = (false, eval e X.env) :: starEach es X.env) (hpl : (backTo pos (starEach es X.env)).any (·.1) = false)
    (ht : eval (.Call (.Attribute o m apos) (e :: es) [] pos) X.env = (do
      let ov ← eval o X.env
      standAt apos.atName
      let (f, first) ← holding [ov] (getMethod ov m pl)
      callWith pos f first (backTo pos (starEach (e :: es) X.env)) (backToKw pos (keywordEach [] X.env)))) :
    PE X (.Call (.Attribute o m apos) (e :: es) [] pos) (fun σ H Q => ta σ H fun x H1 => x = .ref C ∧ t σ H1 fun vs H2 => sp (vs ++ dvs) H2 Q E) := by
  refine ⟨fun pins s σ H Q I h => ?_⟩
  refine PySem.W.methodCall_KW (pl := pl) (thn (he.run pins s σ H _ I h) fun u s1 ⟨x, H1, I1, rx, ex, q⟩ => ?_) ht
  subst ex
  obtain rfl : u = Value.ref C := rx
  refine PySem.W.method_cls I1.kIn r.ga (getcval_ok I1 r cv fun s2 I2 => ?_)
  refine PySem.W.callWith_K (first := []) (h₀ := X.base) I.ok.mod.kin kp (thn (ha.run pos pins s2 σ H1 _ I2 q) fun us s3 ⟨vs, H2, I3, rv, q2⟩ => ⟨I3.kIn, ?_⟩) hst hpl
  exact run_fn (us := us) (vs := vs) F hr hb hd hx I3 rv q2
end
section
variable {K : PySem.W.Frag} {B F F' H H' : Hp} {σ : Sx} {S : Sg} {p : Addr}
theorem hid_same : hid p H p = none := if_pos rfl
theorem hid_ne {a : Addr} (h : a ≠ p) : hid p H a = H a := if_neg h
theorem same_hid (s : Same F H) (fp : F p = none) : Same F (hid p H) := fun b o e => by rw [hid_ne (ne_of_none e fp)]; exact s b o e
theorem hid_sub : Same (hid p H) H := fun b o e => by
  by_cases h : b = p
  · subst h; rw [hid_same] at e; cases e
  · rw [hid_ne h] at e; exact e
theorem Grow.hid (g : Grow F F' H H') (fp : F p = none) (hp : H p ≠ none) : Grow F F' (hid p H) (hid p H') := by
  have f'p := g.non fp hp
  refine ⟨g.f, same_hid g.fh f'p, fun b o e => ?_, fun a ha => ?_⟩
  · by_cases h : b = p
    · subst h; rw [hid_same] at e; cases e
    · rw [hid_ne h] at e ⊢; exact g.h b o e
  · rcases g.new a ha with z | z
    · exact .inl z
    · refine .inr ?_
      by_cases h : a = p
      · subst h; exact hid_same
      · rw [hid_ne h]; exact z
theorem StOk.unhid (s : StOk K B F (Fv.hid p H) σ S) : StOk K B F H σ S where
  bh := s.bh.trans hid_sub
  fh := s.fh.trans hid_sub
  len := s.len
  fz := s.fz
  own := fun i xs h => by
    obtain ⟨q, vs, e, hq, r⟩ := s.own i xs h
    exact ⟨q, vs, e, hid_sub _ _ hq, r⟩
  ap := s.ap
theorem StOk.hid (s : StOk K B F H σ S) (bp : B p = none) (fp : F p = none) (no : ∀ vs, H p ≠ some (.lst vs)) : StOk K B F (Fv.hid p H) σ S where
  bh := same_hid s.bh bp
  fh := same_hid s.fh fp
  len := s.len
  fz := s.fz
  own := fun i xs h => by
    obtain ⟨q, vs, e, hq, r⟩ := s.own i xs h
    have hne : q ≠ p := fun z => no vs (by rw [← z]; exact hq)
    exact ⟨q, vs, e, by rw [hid_ne hne]; exact hq, r⟩
  ap := s.ap
theorem hid_upd {o : HO} : hid p (upd H p o) = hid p H := by
  funext a
  by_cases h : a = p
  · subst h; rw [hid_same, hid_same]
  · rw [hid_ne h, hid_ne h, upd_ne h]
end
structure IniM (P : Program) (w : World) (K : PySem.W.Frag) (mg : Str → Option Value) (base : Heap) (k : Nat) (g : Gv) (b : String) (n : Nat) : Prop where
  ex : ∃ (f : Addr) (fd : FuncData) (ps : List Str) (dvs : List V) (ds : List Value) (sp : Sp) (mc : Value), CRead K (He.ga K (Str.ofString b)) mc ∧ CVal K (He.ga K (Str.ofString b)) mc "__init__" (.ref f) (.ref f) ∧ mg (Str.ofString b) = some (.ref (He.ga K (Str.ofString b))) ∧
    PySem.W.keepIn K (.ref f) = true ∧ Binds K fd ps ds ∧ Vals dvs ds ∧ FnOk P w K mg base (L2.CX P w) k f fd ps sp ∧ ∀ vs H Q E, vs.length = n + 1 → spI K g b vs H Q E → sp (vs ++ dvs) H Q E
def embIs (c : Ck) : Sms → List Stmt → Bool
  | .nil, l => match l with
    | [] => true
    | _ => false
  | .cons (.fst cs n e) r, l => match l with
    | .Assign [.Attribute o f _] v _ :: l => decide (f = Str.ofString n) && (emb c (.var 0) o && (noDisp v && ((cs.all fun z => c.at_.contains (z, n)) && (emb c e v && embIs c r l))))
    | _ => false
  | .cons (.ini b es) r, l => match l with
    | .Expr (.Call (.Attribute (.Name x p) f apos) (s :: a) [] pos) _ :: l => decide (f = ("__init__" : Str)) && (decide (x = Str.ofString b) && (gloB c.sc x && ((apos.endLine == pos.line) && (decide (a.length < 29) && (emb c (.var 0) s && (!isStar s && (embs c es a && (c.bas.contains (b, a.length) && embIs c r l))))))))
    | _ => false
  | _, _ => false
def tIn (K : PySem.W.Frag) (g : Gv) (b : Sms) : TS := fun D σ H => ∃ F0 B0 F p S cn ns xs, σ[0]? = some (some (.ref p)) ∧ Grow F0 F B0 (hid p H) ∧ Same F H ∧ StOk K B0 F (hid p H) σ S ∧ OI K F H p (.ins cn ns xs) ∧
  RH (iexe g.Γ b S cn ns xs) (fun val => ∀ y F' H' σ', val = .d y → Grow F0 F' B0 (hid p H') → Same F' H' → OI K F' H' p y → D.nx σ' H') fun _ _ => False
theorem zip_app {m k : Str} {v : V} : ∀ {ks : List Str} {vs : List V}, ks.length = vs.length → ((ks ++ [k]).zip (vs ++ [v])).lookup m = ((ks.zip vs).lookup m).or (if m = k then some v else none)
  | [], [], _ => by
    show ([(k, v)] : List (Str × V)).lookup m = _
    rw [List.lookup_cons]
    by_cases h : m = k
    · subst h
      rw [beq_self_eq_true, if_pos rfl]; rfl
    · have hb : (m == k) = false := by simpa using h
      rw [hb, if_neg h]; rfl
  | [], _ :: _, h => by cases h
  | _ :: _, [], h => by cases h
  | x :: ks, y :: vs, h => by
    rw [List.cons_append, List.cons_append, List.zip_cons_cons, List.zip_cons_cons, List.lookup_cons, List.lookup_cons]
    by_cases hx : m = x
    · subst hx
      rw [beq_self_eq_true]; rfl
    · have hb : (m == x) = false := by simpa using hx
      rw [hb]
      exact zip_app (by simpa using h)
section
variable {X : Cx} {c : Ck} {g : Gv} {E : XK}
theorem ini_sms (hx : XOk X c g E) {k : Nat} (hr : Room k X.A) (hi : ∀ z n, c.bas.contains (z, n) = true → IniM X.prog X.w X.K X.mg X.base k g z n) : ∀ (b : Sms) {l : List Stmt}, embIs c b l = true → PSs X l (tIn X.K g b)
  | .nil, l, h => by
    cases l with
    | cons _ _ => exact noF h
    | nil =>
      refine PSs.weak pss_nil fun D σ H q => ?_
      obtain ⟨F0, B0, F, p, S, cn, ns, xs, e0, g0, sF, st, oi, q⟩ := q
      exact q _ F H σ rfl g0 sF oi
  | .frz _ _, l, h => noF h
  | .cons s r, l, h => by
    cases s with
    | fst cs n e =>
      unfold embIs at h
      split at h
      · rename_i o f tp v pos l
        obtain ⟨h1, q1⟩ := bandE h
        obtain ⟨h2, q2⟩ := bandE q1
        obtain ⟨h3, q3⟩ := bandE q2
        obtain ⟨h4, q4⟩ := bandE q3
        obtain ⟨h5, h6⟩ := bandE q4
        have e1 : f = Str.ofString n := of_decide_eq_true h1
        subst e1
        refine PSs.weak (pss_cons (ps_fld (pe_nm hx h2) (s_ev e hx h5).v (sw_false h3)) (ini_sms hx hr hi r h6)) fun D σ H q => ?_
        obtain ⟨F0, B0, F, p, S, cn, ns, xs, e0, g0, sF, st, oi, q⟩ := q
        have q : RH (if cn ∈ cs ∧ n ∉ ns ∧ ns.length < 50 then ev g.Γ e S >>= fun v => iexe g.Γ r S cn (ns ++ [n]) (xs ++ [v.D]) else .bad) (fun val => ∀ y F' H' σ', val = .d y → Grow F0 F' B0 (hid p H') → Same F' H' → OI X.K F' H' p y → D.nx σ' H') (fun _ _ => False) := q
        by_cases hc : cn ∈ cs ∧ n ∉ ns ∧ ns.length < 50
        · rw [if_pos hc] at q
          obtain ⟨dx, fsV, vs, hp, r1, hlen, hfl, hl⟩ := oi
          have fp : F p = none := g0.fh.free hid_same
          have bp : B0 p = none := g0.h.free hid_same
          refine ⟨B0, F, S, st.unhid, RH.imp (RH.bind q) (fun val _ q F1 H1 w gr rv => ?_) fun _ _ z => z.elim⟩
          obtain ⟨F2, g2, _, r2⟩ := rv.keep gr
          have hp1 : H1 p = some (.ins (He.ga X.K (Str.ofString cn)) dx fsV) := g2.h _ _ hp
          have f2 : F2 p = none := g2.non fp (by rw [hp]; exact fun z => nomatch z)
          obtain ⟨cl, na⟩ := hx.at_ cn n (List.all_eq_true.mp h4 cn hc.1)
          have gh := g2.hid (p := p) fp (by rw [hp]; exact fun z => nomatch z)
          have st2 := st.grow gh
          refine ⟨.ref p, e0, p, _, dx, fsV, rfl, hp1, cl, na, by omega, ?_⟩
          refine ⟨F0, B0, F2, p, S, cn, ns ++ [n], xs ++ [val.D], e0, by rw [hid_upd]; exact g0.trans gh, same_upd2 g2.fh f2, by rw [hid_upd]; exact st2, ?_, q⟩
          refine ⟨dx, _, vs ++ [w], upd_same, (RpL.mono g2.f _ _ r1).app (RpL.cons r2 RpL.nil), by rw [List.length_append, List.length_append, hlen]; rfl, ?_, fun m => ?_⟩
          · have := length_putF (Str.ofString n) w fsV
            rw [List.length_append]
            show _ ≤ ns.length + 1
            omega
          · rw [lookup_putF, List.map_append]
            show _ = ((ns.map Str.ofString ++ [Str.ofString n]).zip (vs ++ [w])).lookup m
            rw [zip_app (by rw [List.length_map, hlen, r1.len]), hl]
            by_cases hm : m = Str.ofString n
            · subst hm
              rw [if_pos rfl, if_pos rfl, zip_none hc.2.1]; rfl
            · rw [if_neg hm, if_neg hm, Option.or_none]
        · rw [if_neg hc] at q
          exact q.elim
      · cases h
    | ini b es =>
      unfold embIs at h
      split at h
      · rename_i x p0 f apos s a pos pos2 l
        obtain ⟨h1, q1⟩ := bandE h
        obtain ⟨h2, q2⟩ := bandE q1
        obtain ⟨h3, q3⟩ := bandE q2
        obtain ⟨h4, q4⟩ := bandE q3
        obtain ⟨h5, q5⟩ := bandE q4
        obtain ⟨h6, q6⟩ := bandE q5
        obtain ⟨h7, q7⟩ := bandE q6
        obtain ⟨h8, q8⟩ := bandE q7
        obtain ⟨h9, h10⟩ := bandE q8
        have e1 : f = ("__init__" : Str) := of_decide_eq_true h1
        subst e1
        have e2 : x = Str.ofString b := of_decide_eq_true h2
        subst e2
        have h5 : a.length < 29 := of_decide_eq_true h5
        obtain ⟨k1, k2, k3⟩ := glo_of hx h3
        obtain ⟨ff, fd, ps, dvs, ds, sp, mc, r1, r2, r3, r4, r5, r6, r7, r8⟩ := (hi b a.length h9).ex
        have st := embs_stars h8
        have hall : ((s :: a).all fun e => !isStar e) = true := by rw [List.all_cons, h7, st]; rfl
        have ht := meth_form (o := .Name (Str.ofString b) p0) (m := "__init__") (apos := apos) (pos := pos) (env := X.env) (l := s :: a) rfl h4 hall (by rw [List.length_cons]; omega)
        have pg : PE X (.Name (Str.ofString b) p0) (tC (.ref (He.ga X.K (Str.ofString b)))) := pe_glob k1 r3 rfl k2
        refine PSs.weak (pss_cons (ps_expr (pe_ccall pg r1 r2 r4 r7 hr r5 r6 hx.ps (pa_cons (pe_nm hx h6) (s_dsP es c X g E a hx h8) (star_of (notE h7))) (star_of (notE h7)) (plain_back (e := s) st) ht) rfl) (ini_sms hx hr hi r h10)) fun D σ H q => ?_
        obtain ⟨F0, B0, F, p, S, cn, ns, xs, e0, g0, sF, st, oi, q⟩ := q
        have q : RH (evs g.Γ es S >>= fun ds => (g.Γ (b ++ ".__init__") (.ins cn ns xs :: ds)).noEr >>= fun v => match v with
          | .d (.ins c' ns' xs') => if c' = cn then iexe g.Γ r S cn ns' xs' else .bad
          | _ => .bad) (fun val => ∀ y F' H' σ', val = .d y → Grow F0 F' B0 (hid p H') → Same F' H' → OI X.K F' H' p y → D.nx σ' H') (fun _ _ => False) := q
        refine ⟨rfl, .ref p, e0, B0, F, S, st.unhid, RH.imp (RH.bind q) (fun ds' e3 q F1 H1 ws g1 rw1 => ?_) fun _ _ z => z.elim⟩
        obtain ⟨dx, fsV, vs, hp, ro, hlen, hfl, hl⟩ := oi
        have fp : F p = none := g0.fh.free hid_same
        have f1 : F1 p = none := g1.non fp (by rw [hp]; exact fun z => nomatch z)
        have gh := g1.hid (p := p) fp (by rw [hp]; exact fun z => nomatch z)
        obtain ⟨val, e4, q⟩ := noEr_ok q
        have wl : ws.length = a.length := by rw [← rw1.len]; exact evs_len h8 e3
        refine r8 (.ref p :: ws) H1 _ E (by rw [List.length_cons, wl]) ?_
        refine ⟨F1, p, ws, .ins cn ns xs, ds', rfl, ⟨dx, fsV, vs, g1.h _ _ hp, RpL.mono g1.f _ _ ro, hlen, hfl, hl⟩, f1, g1.fh, rw1, ?_⟩
        rw [e4]
        intro y F' H' ey gr sF' oi'
        subst ey
        cases y with
        | ins c' ns' xs' =>
          have q : RH (if c' = cn then iexe g.Γ r S cn ns' xs' else .bad) _ _ := q
          by_cases hcc : c' = cn
          · subst hcc
            rw [if_pos rfl] at q
            exact ⟨F0, B0, F', p, S, c', ns', xs', e0, (g0.trans gh).trans gr, sF', (st.grow gh).grow gr, oi', q⟩
          · rw [if_neg hcc] at q
            exact q.elim
        | _ => exact oi'.elim
      · cases h
    | _ => exact noF h
end
def spID (K : PySem.W.Frag) (g : Gv) (d : Df) : Sp := fun vs H Q E => vs.length = d.np ∧ ∃ F p ws x ds, vs = .ref p :: ws ∧ OI K F H p x ∧ F p = none ∧ Same F H ∧ RpL K F ds ws ∧
  RH (runI g.Γ d (x :: ds)) (fun val => ∀ y F' H', val = .d y → Grow F F' (hid p H) (hid p H') → Same F' H' → OI K F' H' p y → Q .non H') fun _ _ => False
section
variable {P : Program} {w : World} {K : PySem.W.Frag} {mg : Str → Option Value} {base : Heap} {x qual : Str} {params : Arguments} {body : List Stmt} {scope : Scope} {dvs : List V} {kws : List (Str × V)} {f : Addr} {fd : FuncData} {c : Ck} {g : Gv} {k : Nat}
theorem startsI {N : List Str} {ws : List V} {ds : List D} {F H : Hp} {d : Df} {p : Addr} (hl : ws.length + 1 = d.np) (hN : N.length = d.nl) (sF : Same F H) (r : RpL K F ds ws) : StOk K H F H (L2.start N (.ref p :: ws)) (.no :: ds.map Sl.fz ++ List.replicate (d.nl - d.np) Sl.no) where
  bh := Same.refl H
  fh := sF
  len := by
    unfold L2.start
    rw [List.length_append, List.length_cons, List.length_append, List.length_map, List.length_map, List.length_replicate, List.length_replicate, List.length_cons, r.len, hN]
    omega
  fz := fun i y h => by
    cases i with
    | zero => cases h
    | succ i =>
      rw [List.cons_append, List.getElem?_cons_succ] at h
      by_cases hi : i < ds.length
      · rw [List.getElem?_append_left (by rw [List.length_map]; exact hi), List.getElem?_map] at h
        cases q : ds[i]? with
        | none => rw [q] at h; cases h
        | some z =>
          rw [q] at h
          cases h
          obtain ⟨v, e, rv⟩ := r.get q
          refine ⟨v, ?_, rv⟩
          unfold L2.start
          rw [List.map_cons, List.cons_append, List.getElem?_cons_succ, List.getElem?_append_left (by rw [List.length_map, ← r.len]; exact hi), List.getElem?_map, e]
          rfl
      · rw [List.getElem?_append_right (by rw [List.length_map]; omega), List.getElem?_replicate] at h
        split at h <;> cases h
  own := fun i ys h => by
    cases i with
    | zero => cases h
    | succ i =>
      rw [List.cons_append, List.getElem?_cons_succ] at h
      by_cases hi : i < ds.length
      · rw [List.getElem?_append_left (by rw [List.length_map]; exact hi), List.getElem?_map] at h
        cases q : ds[i]? with
        | none => rw [q] at h; cases h
        | some z => rw [q] at h; cases h
      · rw [List.getElem?_append_right (by rw [List.length_map]; omega), List.getElem?_replicate] at h
        split at h <;> cases h
  ap := fun i j ys zs p _ h _ _ _ => by
    cases i with
    | zero => cases h
    | succ i =>
      rw [List.cons_append, List.getElem?_cons_succ] at h
      by_cases hi : i < ds.length
      · rw [List.getElem?_append_left (by rw [List.length_map]; exact hi), List.getElem?_map] at h
        cases q : ds[i]? with
        | none => rw [q] at h; cases h
        | some z => rw [q] at h; cases h
      · rw [List.getElem?_append_right (by rw [List.length_map]; omega), List.getElem?_replicate] at h
        split at h <;> cases h
theorem ini_ok {N ps : List Str} {d : Df} (F : FunD K x qual params body scope dvs kws f fd) (S : FnScope N ps scope) (hN : c.N = N) (hsc : c.sc = scope) (hts : c.ts = scope) (m : ModOk P w K mg base k g c) (hi : ∀ z n, c.bas.contains (z, n) = true → IniM P w K mg base k g z n)
    (hb : embIs c d.body body = true) (hnl : N.length = d.nl) (hnp : ps.length = d.np) : FnOk P w K mg base (L2.CX P w) (k + 1) f fd ps (spID K g d) := by
  refine F.ok S (fun vs H Q E h => h.1.trans hnp.symm) fun cdv A outer s H vs Q E hr h => ?_
  obtain ⟨hl, Fh, p, ws, y, ds, rfl, oi, fp, sF, rp, q⟩ := h
  have tk : Takes (cxOf (L2.CX P w) P w K mg base N qual scope f cdv A outer s H E) (fun cls d _ H => E cls d H) := takes_of rfl rfl rfl rfl
  have hx : XOk (cxOf (L2.CX P w) P w K mg base N qual scope f cdv A outer s H E) c g E := {
      n := hN.symm
      nd := S.nd
      sc := hsc.symm
      calm := rfl
      hu := by have := hr.un; show (A.deeper _).units + 64 < cLine; omega
      ts := fun y hy => ⟨by rw [hts] at hy; exact hy, .inl rfl⟩
      con := m.con
      fr := m.fr
      fn := fun f n h => (m.fn f n h).at_ hr
      ps := passes_call tk fun _ _ _ _ h => h
      at_ := m.at_
      me := fun z n j h => (m.me z n j h).at_ hr
      mks := fun z n h => (m.mks z n h).at_ hr
      xb := m.xb
      xr := fun z n h => (m.xr z n h).at_ hr
      ei := m.ei }
  cases y with
  | ins cn ns xs =>
    have q : RH (if ds.length + 1 = d.np then iexe g.Γ d.body (.no :: ds.map Sl.fz ++ List.replicate (d.nl - d.np) Sl.no) cn ns xs else .bad) (fun val => ∀ y F' H', val = .d y → Grow Fh F' (hid p H) (hid p H') → Same F' H' → OI K F' H' p y → Q .non H') (fun _ _ => False) := q
    have hl : ws.length + 1 = d.np := hl
    rw [if_pos (by rw [rp.len]; exact hl)] at q
    have sh : Same Fh (hid p H) := same_hid sF fp
    refine ⟨_, ini_sms hx hr hi d.body hb, Fh, hid p H, Fh, p, _, cn, ns, xs, rfl, Grow.refl sh, sF, startsI hl hnl sh rp, oi, RH.imp q (fun val _ q y F' H' σ' e gr s' o' => q y F' H' e gr s' o') fun _ _ z => z⟩
  | _ => exact oi.elim
/-- .. by its mirror -/
theorem ini_sp {defs : List (String × Df)} {ei : EIs} {b : String} {d : Df} {km n : Nat} (hd : defs.lookup (b ++ ".__init__") = some d) (hi : isIni d.body = true) (hn : n + 1 = d.np) : ∀ vs H Q E, vs.length = n + 1 → spI K (gN defs ei (km + 1)) b vs H Q E → spID K (gN defs ei km) d (vs ++ []) H Q E := by
  intro vs H Q E hl h
  obtain ⟨F, p, ws, y, ds, e, oi, fp, sF, rp, q⟩ := h
  rw [List.append_nil]
  refine ⟨hl.trans hn, F, p, ws, y, ds, e, oi, fp, sF, rp, ?_⟩
  have q : RH (mirN defs (km + 1) (b ++ ".__init__") (y :: ds)) (fun val => ∀ y F' H', val = .d y → Grow F F' (hid p H) (hid p H') → Same F' H' → OI K F' H' p y → Q .non H') (fun _ _ => False) := q
  rw [mirN_run hd] at q
  unfold run at q
  rw [if_pos hi] at q
  exact q
/-- a class that is made; a base's __init__ -/
theorem mk_m {defs : List (String × Df)} {ei : EIs} {z : String} {N ps : List Str} {d : Df} {km n : Nat} (F : FunD K x qual params body scope [] kws f fd) (M : L2.Mk K (He.ga K (Str.ofString z)) f) (hmg : mg (Str.ofString z) = some (.ref (He.ga K (Str.ofString z)))) (S : FnScope N ps scope) (hN : c.N = N) (hsc : c.sc = scope) (hts : c.ts = scope)
    (m : ModOk P w K mg base k (gN defs ei km) c) (hi : ∀ z n, c.bas.contains (z, n) = true → IniM P w K mg base k (gN defs ei km) z n) (hb : embIs c d.body body = true) (hnl : N.length = d.nl) (hnp : ps.length = d.np) (hd : defs.lookup (z ++ ".__init__") = some d) (hini : isIni d.body = true) (hn : n + 1 = d.np)
    (b : Binds K fd ps []) : MkM P w K mg base (k + 2) (gN defs ei (km + 1)) z n :=
  ⟨f, fd, ps, k + 1, [], [], _, Nat.le_refl _, M, hmg, b, .nil, ini_ok F S hN hsc hts m hi hb hnl hnp, ini_sp hd hini hn⟩
theorem ini_m {defs : List (String × Df)} {ei : EIs} {z : String} {N ps : List Str} {d : Df} {km n : Nat} {mc : Value} (F : FunD K x qual params body scope [] kws f fd) (r1 : CRead K (He.ga K (Str.ofString z)) mc) (r2 : CVal K (He.ga K (Str.ofString z)) mc "__init__" (.ref f) (.ref f)) (hmg : mg (Str.ofString z) = some (.ref (He.ga K (Str.ofString z)))) (S : FnScope N ps scope) (hN : c.N = N) (hsc : c.sc = scope) (hts : c.ts = scope)
    (m : ModOk P w K mg base k (gN defs ei km) c) (hi : ∀ z n, c.bas.contains (z, n) = true → IniM P w K mg base k (gN defs ei km) z n) (hb : embIs c d.body body = true) (hnl : N.length = d.nl) (hnp : ps.length = d.np) (hd : defs.lookup (z ++ ".__init__") = some d) (hini : isIni d.body = true) (hn : n + 1 = d.np)
    (b : Binds K fd ps []) : IniM P w K mg base (k + 1) (gN defs ei (km + 1)) z n :=
  ⟨f, fd, ps, [], [], _, mc, r1, r2, hmg, F.kp, b, .nil, ini_ok F S hN hsc hts m hi hb hnl hnp, ini_sp hd hini hn⟩
/-- a method -/
theorem met_m {defs : List (String × Df)} {ei : EIs} {z mn : String} {N ps : List Str} {d : Df} {km n : Nat} (F : FunD K x qual params body scope [] kws f fd) (cl : Cls K (He.ga K (Str.ofString z))) (M : Meth K (He.ga K (Str.ofString z)) (Str.ofString mn) f) (S : FnScope N ps scope) (hN : c.N = N) (hsc : c.sc = scope) (hts : c.ts = scope)
    (m : ModOk P w K mg base k (gN defs ei km) c) (hb : embSs c d.body body = true) (hnl : N.length = d.nl) (hnp : ps.length = d.np) (hd : defs.lookup (z ++ "." ++ mn) = some d) (hdf : d.dfl = []) (hn : n + 1 = d.np)
    (b : Binds K fd ps []) : MetM P w K mg base (k + 1) (gN defs ei (km + 1)) z mn n := by
  refine ⟨f, fd, ps, [], [], _, cl, M, b, .nil, fn_ok F S hN hsc hts m hb hnl hnp, fun vs H Q E hl h => ?_⟩
  obtain ⟨Fh, xs, sF, rp, q⟩ := h
  rw [List.append_nil]
  have hx : xs.length = d.np := by rw [rp.len, hl, hn]
  refine ⟨hl.trans hn, Fh, xs, sF, rp, ?_⟩
  have q : RH (mirN defs (km + 1) (z ++ "." ++ mn) xs) (fun val => ∀ F' H' v, Grow Fh F' H H' → VR K F' H H' val v → Q v H') (ErW (gN defs ei (km + 1)) E H) := q
  rw [mirN_run hd] at q
  unfold run at q
  rw [if_neg (by rw [isIni_of hb]; exact Bool.false_ne_true), hx, hdf, if_pos ⟨Nat.le_refl _, Nat.le_refl _⟩] at q
  rw [List.drop_nil, List.append_nil] at q
  exact q
end
end Fv
end
section
set_option maxHeartbeats 4000000
namespace Fv
open PySem PySem.Spec PyProof.Rows L2
section
variable {P : Program} {w : World} {K : PySem.W.Frag} {mg : Str → Option Value} {base : Heap} {k : Nat} {g : Gv}
theorem conNil : ∀ (x : Str) (v : Gc), ([] : List (Str × Gc)).lookup x = some v → ∃ u, mg x = some u ∧ (match v with | .int i => RelV (.int i) u | .str s => RelV (.str s) u) := fun _ _ h => nomatch h
theorem conCons {y : Str} {z : Gc} {l : List (Str × Gc)} (h : ∃ u, mg y = some u ∧ (match z with | .int i => RelV (.int i) u | .str s => RelV (.str s) u))
    (t : ∀ (x : Str) (v : Gc), l.lookup x = some v → ∃ u, mg x = some u ∧ (match v with | .int i => RelV (.int i) u | .str s => RelV (.str s) u)) :
    ∀ (x : Str) (v : Gc), ((y, z) :: l).lookup x = some v → ∃ u, mg x = some u ∧ (match v with | .int i => RelV (.int i) u | .str s => RelV (.str s) u) := fun x v e => by
  rw [List.lookup_cons] at e
  by_cases hx : x = y
  · subst hx
    rw [beq_self_eq_true] at e
    cases e
    exact h
  · have hb : (x == y) = false := by simpa using hx
    rw [hb] at e
    exact t x v e
theorem frNil : ∀ x : Str, ([] : List Str).contains x = true → mg x = none := fun _ h => nomatch h
theorem frCons {y : Str} {l : List Str} (h : mg y = none) (t : ∀ x, l.contains x = true → mg x = none) : ∀ x, (y :: l).contains x = true → mg x = none := fun x e => by
  rw [List.contains_cons] at e
  by_cases hx : x = y
  · subst hx; exact h
  · have hb : (x == y) = false := by simpa using hx
    rw [hb] at e
    exact t x e
theorem fnNil : ∀ (f : String) (n : Nat), ([] : List (String × Nat)).contains (f, n) = true → FnM P w K mg base k g f n := fun _ _ h => nomatch h
theorem fnCons {f0 : String} {n0 : Nat} {l : List (String × Nat)} (h : FnM P w K mg base k g f0 n0) (t : ∀ (f : String) (n : Nat), l.contains (f, n) = true → FnM P w K mg base k g f n) : ∀ (f : String) (n : Nat), ((f0, n0) :: l).contains (f, n) = true → FnM P w K mg base k g f n := fun f n e => by
  rw [List.contains_cons] at e
  by_cases hx : f = f0 ∧ n = n0
  · obtain ⟨rfl, rfl⟩ := hx; exact h
  · have hb : ((f, n) == (f0, n0)) = false := by
      rw [beq_eq_false_iff_ne]
      intro z
      cases z
      exact hx ⟨rfl, rfl⟩
    rw [hb] at e
    exact t f n e
theorem FnM.lift {defs : List (String × Df)} {ei : EIs} {f : String} {n j a b : Nat} (h : j ≤ k) (e : a = b) (F : FnM P w K mg base j (gN defs ei a) f n) : FnM P w K mg base k (gN defs ei b) f n := by
  subst e
  obtain ⟨ad, fd, ps, dvs, ds, sp, h1, h2, h3, h4, h5, h6⟩ := F.ex
  exact ⟨ad, fd, ps, dvs, ds, sp, h1, h2, h3, h4, h5.mono h, h6⟩
theorem FnM.cast {defs : List (String × Df)} {ei : EIs} {f : String} {n j : Nat} (e : j = k) (h : FnM P w K mg base j (gN defs ei j) f n) : FnM P w K mg base k (gN defs ei k) f n := by subst e; exact h
/-- the law at its script -/
theorem sp_law {d : Df} {H : Hp} {a : Addr} {ns : List Int} (hnp : d.np = 1) (hS : SqL K H a (ns.map V.int)) (h : runA g.Γ d [.scr ns] = .ok (.d (.bl true))) : spD K g d [.ref a] H (fun v _ => v = .bl true) fun _ _ _ => False := by
  refine ⟨hnp.symm, H, [.scr ns], Same.refl H, RpL.cons (by rw [Rp]; exact ⟨a, rfl, hS⟩) RpL.nil, ?_⟩
  rw [h]
  exact fun F' H' v _ r => r
theorem walk_bits {l : PySem.W.OpenLaw} {n k : Nat} {q : Program} {loose : List Str} {XP : (Str → Option Value) → Heap → Prop} {YP : World → Heap → Prop} {d : DefRec} {CX : World → CXT} {x : Str}
    (hn : l.most = some n) (hn2 : n ≤ sizeLine) (hdf : d.params.defaults = []) (hr : Room k callerA)
    (F : ∀ (w : World) (mg : Str → Option Value) (fa : Addr) (h : Heap), YP w h → h.Ns mainGlobals mg → mg d.name = some (.ref fa) →
      ∃ (K : PySem.W.Frag) (fd : FuncData) (sp : Sp), K.In h ∧ (∀ (s : Shared) (u : Value), BindsTo s fd ⟨[u], []⟩ [(x, u)]) ∧
        (∀ (H : Hp) (a : Addr) (ns : List Int), ns.length ≤ n → (∀ z ∈ ns, Builtin.Int.intBits z ≤ 1048576) → SqL K H a (ns.map V.int) → sp [.ref a] H (fun v _ => v = .bl true) fun _ _ _ => False) ∧
        ∀ base : Heap, K.In base → base.Ns mainGlobals mg → FnOk l.prog w K mg base (CX w) k fa fd [x] sp)
    (hCX : ∀ (w : World) (H : Hp) (s : Shared) (e : Value) (s' : Shared), CX w [] H s (fun _ _ _ => False) e s' → False) :
    PySem.W.WalkO q loose XP YP l.row.toRowW d [] (fun f vs => PySem.call f vs) := by
  refine Att.attach_callB hn hdf fun w s₀ s₁ mg mb fa o pm cd doc a vs ns G Y ho hd hcd hmg hobj hints hlen hbits hg => ?_
  obtain ⟨K, fd, sp, KX, hb, hsp, hF⟩ := F w mg fa _ Y G.T.g hmg
  exact law_call KX G.T.g G.T.b G.T.builtins G.T.nolimit hg hobj hints (Nat.le_trans hlen hn2) hr hF hb (fun H hO hS => hsp H a ns hlen hbits hS) fun H e s' => hCX w H s₁ e s'
theorem noCX (w : World) (H : Hp) (s : Shared) (e : Value) (s' : Shared) (h : L2.CX P w [] H s (fun _ _ _ => False) e s') : False := by
  obtain ⟨a, B, H', cls, d, _, _, _, _, _, _, _, hE⟩ := h
  exact hE
end
end Fv
end
section
namespace Fv
open PySem PySem.Spec PyProof.Rows L2
abbrev AlF : Type := He.AlD × Bool
def obsF (n : Nat) (fa : List He.Fa) (fn : List He.DefD) (bs : PySem.W.Frag → Bool) (g : Addr → Option Obj) : AlF := (He.obsD fa fn (He.frG g (He.asD g n ++ [cStatics])), bs (He.frG g (He.asD g n ++ [cStatics])))
def hookF (n : Nat) (fa : List He.Fa) (fn : List He.DefD) (bs : PySem.W.Frag → Bool) : PySem.W.Hook where
  α := AlF
  obs := fun s => obsF n fa fn bs s.heap.get?
  val := fun _ => (He.valD fn, true)
  says := fun _ h => ∃ K : PySem.W.Frag, K.In h ∧ (He.SaysD fa fn K ∧ bs K = true)
  of := fun _ _ e => ⟨_, He.frG_in, congrArg Prod.fst e, congrArg Prod.snd e⟩
  keeps := fun _ _ _ ⟨K, hK, c⟩ k => ⟨K, PySem.W.Frag.In.keeps hK k, c⟩
theorem obsF_eq {n : Nat} {fa : List He.Fa} {fn : List He.DefD} {bs : PySem.W.Frag → Bool} {g : Addr → Option Obj} {s : Shared} (h : ∀ a, g a = s.heap.get? a) : obsF n fa fn bs g = (hookF n fa fn bs).obs s := by
  have e : g = s.heap.get? := funext h
  rw [e] <;> rfl
/-- what is looked at for Base.__init__(self, ..) -/
def basB (b : String) (K : PySem.W.Frag) : Bool := PySem.W.readsIn K (He.ga K (Str.ofString b)) (.type "type") && (decide (PySem.W.specialIn K (.ref (He.ga K (Str.ofString b))) "__getattribute__" = some (some (.builtin "type.__getattribute__"))) &&
  (match PySem.W.findCls K (.ref (He.ga K (Str.ofString b))) (.type "type") "__init__" with
  | some (.val (.ref f)) => decide (f = He.fAd K (Str.ofString b, some "__init__"))
  | _ => false))
theorem basB_ok {b : String} {K : PySem.W.Frag} (h : basB b K = true) : ClX.CRead K (He.ga K (Str.ofString b)) (.type "type") ∧ ClX.CVal K (He.ga K (Str.ofString b)) (.type "type") "__init__" (.ref (He.fAd K (Str.ofString b, some "__init__"))) (.ref (He.fAd K (Str.ofString b, some "__init__"))) := by
  unfold basB at h
  rw [Bool.and_eq_true, Bool.and_eq_true] at h
  obtain ⟨h1, h2, h3⟩ := h
  refine ⟨⟨h1, of_decide_eq_true h2⟩, ?_, rfl⟩
  split at h3
  · rename_i f e
    rw [e, of_decide_eq_true h3]
  · cases h3
theorem nilP {α : Type} [BEq α] {P : α → Prop} : ∀ x, ([] : List α).contains x = true → P x := fun _ h => nomatch h
theorem consP {α : Type} [BEq α] [LawfulBEq α] {P : α → Prop} {a : α} {l : List α} (h : P a) (t : ∀ x, l.contains x = true → P x) : ∀ x, (a :: l).contains x = true → P x := fun x e => by
  rw [List.contains_cons] at e
  by_cases hx : x = a
  · rw [hx]; exact h
  · have hb : (x == a) = false := by simpa using hx
    rw [hb] at e
    exact t x e
section
variable {P : Program} {w : World} {K : PySem.W.Frag} {mg : Str → Option Value} {base : Heap} {k : Nat} {g : Gv}
theorem pair2 {α β : Type} [BEq α] [BEq β] [LawfulBEq α] [LawfulBEq β] {Q : α → β → Prop} {a : α} {b : β} {l : List (α × β)} (h : Q a b) (t : ∀ x y, l.contains (x, y) = true → Q x y) : ∀ x y, ((a, b) :: l).contains (x, y) = true → Q x y := fun x y e =>
  consP (P := fun z : α × β => Q z.1 z.2) h (fun z => t z.1 z.2) (x, y) e
theorem pair3 {α β γ : Type} [BEq α] [BEq β] [BEq γ] [LawfulBEq α] [LawfulBEq β] [LawfulBEq γ] {Q : α → β → γ → Prop} {a : α} {b : β} {c : γ} {l : List (α × β × γ)} (h : Q a b c) (t : ∀ x y z, l.contains (x, y, z) = true → Q x y z) : ∀ x y z, ((a, b, c) :: l).contains (x, y, z) = true → Q x y z := fun x y z e =>
  consP (P := fun u : α × β × γ => Q u.1 u.2.1 u.2.2) h (fun u => t u.1 u.2.1 u.2.2) (x, y, z) e
theorem atNil : ∀ (z n : String), ([] : List (String × String)).contains (z, n) = true → Cls K (He.ga K (Str.ofString z)) ∧ NoAttr K (He.ga K (Str.ofString z)) (Str.ofString n) := fun _ _ h => nomatch h
theorem atCons {a b : String} {l : List (String × String)} (h : Cls K (He.ga K (Str.ofString a)) ∧ NoAttr K (He.ga K (Str.ofString a)) (Str.ofString b))
    (t : ∀ z n, l.contains (z, n) = true → Cls K (He.ga K (Str.ofString z)) ∧ NoAttr K (He.ga K (Str.ofString z)) (Str.ofString n)) : ∀ z n, ((a, b) :: l).contains (z, n) = true → Cls K (He.ga K (Str.ofString z)) ∧ NoAttr K (He.ga K (Str.ofString z)) (Str.ofString n) :=
  pair2 (Q := fun z n => Cls K (He.ga K (Str.ofString z)) ∧ NoAttr K (He.ga K (Str.ofString z)) (Str.ofString n)) h t
theorem meNil : ∀ (z m : String) (n : Nat), ([] : List (String × String × Nat)).contains (z, m, n) = true → MetM P w K mg base k g z m n := fun _ _ _ h => nomatch h
theorem meCons {a b : String} {c : Nat} {l : List (String × String × Nat)} (h : MetM P w K mg base k g a b c) (t : ∀ z m n, l.contains (z, m, n) = true → MetM P w K mg base k g z m n) : ∀ z m n, ((a, b, c) :: l).contains (z, m, n) = true → MetM P w K mg base k g z m n := pair3 h t
theorem mksNil : ∀ (z : String) (n : Nat), ([] : List (String × Nat)).contains (z, n) = true → MkM P w K mg base k g z n := fun _ _ h => nomatch h
theorem mksCons {a : String} {b : Nat} {l : List (String × Nat)} (h : MkM P w K mg base k g a b) (t : ∀ z n, l.contains (z, n) = true → MkM P w K mg base k g z n) : ∀ z n, ((a, b) :: l).contains (z, n) = true → MkM P w K mg base k g z n := pair2 h t
theorem basNil : ∀ (z : String) (n : Nat), ([] : List (String × Nat)).contains (z, n) = true → IniM P w K mg base k g z n := fun _ _ h => nomatch h
theorem basCons {a : String} {b : Nat} {l : List (String × Nat)} (h : IniM P w K mg base k g a b) (t : ∀ z n, l.contains (z, n) = true → IniM P w K mg base k g z n) : ∀ z n, ((a, b) :: l).contains (z, n) = true → IniM P w K mg base k g z n := pair2 h t
theorem MetM.lift {defs : List (String × Df)} {ei : EIs} {f q : String} {n j a b : Nat} (h : j ≤ k) (e : a = b) (F : MetM P w K mg base j (gN defs ei a) f q n) : MetM P w K mg base k (gN defs ei b) f q n := by
  subst e
  obtain ⟨f, fd, ps, dvs, ds, sp, h1, h2, h3, h4, h5, h6⟩ := F.ex
  exact ⟨f, fd, ps, dvs, ds, sp, h1, h2, h3, h4, h5.mono h, h6⟩
theorem MkM.lift {defs : List (String × Df)} {ei : EIs} {f : String} {n j a b : Nat} (h : j ≤ k) (e : a = b) (F : MkM P w K mg base j (gN defs ei a) f n) : MkM P w K mg base k (gN defs ei b) f n := by
  subst e
  obtain ⟨f, fd, ps, i, dvs, ds, sp, h0, h1, h2, h3, h4, h5, h6⟩ := F.ex
  exact ⟨f, fd, ps, i, dvs, ds, sp, Nat.le_trans h0 h, h1, h2, h3, h4, h5, h6⟩
theorem IniM.lift {defs : List (String × Df)} {ei : EIs} {f : String} {n j a b : Nat} (h : j ≤ k) (e : a = b) (F : IniM P w K mg base j (gN defs ei a) f n) : IniM P w K mg base k (gN defs ei b) f n := by
  subst e
  obtain ⟨f, fd, ps, dvs, ds, sp, mc, r1, r2, h1, h2, h3, h4, h5, h6⟩ := F.ex
  exact ⟨f, fd, ps, dvs, ds, sp, mc, r1, r2, h1, h2, h3, h4, h5.mono h, h6⟩
/-- at level 0 nothing is promised -/
theorem fn_bad {defs : List (String × Df)} {ei : EIs} {name : String} {n : Nat} {x qual : Str} {params : Arguments} {body : List Stmt} {scope : Scope} {dvs : List V} {kws : List (Str × V)} {f : Addr} {fd : FuncData} {ps : List Str} (F : FunD K x qual params body scope dvs kws f fd) (hmg : mg (Str.ofString name) = some (.ref f)) (b : Binds K fd ps []) : FnM P w K mg base 0 (gN defs ei 0) name n :=
  ⟨f, fd, ps, [], [], fun _ _ _ _ => False, hmg, F.kp, b, .nil, ⟨fun _ _ _ _ h => h.elim, fun _ _ _ _ _ _ _ _ _ _ _ _ _ h => h.elim⟩, fun vs H Q E _ h => by
    obtain ⟨Fh, xs, sF, rp, q⟩ := h
    exact q⟩
end
end Fv
end
section
namespace Fv
open PySem PySem.Spec PyProof.Rows L2
/-- the class's own __init__ -/
def rsB (z : String) (K : PySem.W.Frag) : Bool := He.eqO (PySem.W.findIn K (.ref (He.ga K (Str.ofString z))) "__init__") (some (some (.ref (He.fAd K (Str.ofString z, some "__init__"))))) && decide (PySem.W.typeIn K (.ref (He.fAd K (Str.ofString z, some "__init__"))) = some (.type "function"))
section
variable {P : Program} {w : World} {K : PySem.W.Frag} {mg : Str → Option Value} {base : Heap} {k : Nat} {x qual : Str} {params : Arguments} {body : List Stmt} {scope : Scope} {kws : List (Str × V)} {f : Addr} {fd : FuncData} {N : List Str} {z fl fl2 : String} {xs xn : List String}
theorem rs_m1 (F : FunD K x qual params body scope [] kws (He.fAd K (Str.ofString z, some "__init__")) fd) (S : FnScope N N scope) (e : FvX.xNs z = [fl]) (hb : FvX.xiB scope N (Str.ofString fl) body = true) (r : rsB z K = true) (xb : FvX.XB K mg xs xn) (b : Binds K fd N []) : RsM P w K mg base (k + 2) z 1 := by
  obtain ⟨r1, r2⟩ := Bool.and_eq_true_iff.mp r
  refine ⟨_, fd, N, k + 1, Nat.le_refl _, He.eqO_ok r1, of_decide_eq_true r2, b, ?_, by rw [e]; rfl, .inl ⟨fl, e⟩⟩
  rw [e]
  exact FvX.init1 F S hb xb.sg xb.si
theorem rs_m2 (F : FunD K x qual params body scope [] kws (He.fAd K (Str.ofString z, some "__init__")) fd) (S : FnScope N N scope) (e : FvX.xNs z = [fl, fl2]) (ne : Str.ofString fl ≠ Str.ofString fl2) (hb : FvX.xiB2 scope N (Str.ofString fl) (Str.ofString fl2) body = true) (r : rsB z K = true) (xb : FvX.XB K mg xs xn) (b : Binds K fd N []) : RsM P w K mg base (k + 2) z 2 := by
  obtain ⟨r1, r2⟩ := Bool.and_eq_true_iff.mp r
  refine ⟨_, fd, N, k + 1, Nat.le_refl _, He.eqO_ok r1, of_decide_eq_true r2, b, ?_, by rw [e]; rfl, .inr ⟨fl, fl2, e, ne⟩⟩
  rw [e]
  exact FvX.init2 F S hb xb.sg xb.si
theorem RsM.lift {j n : Nat} (h : j ≤ k) (F : RsM P w K mg base j z n) : RsM P w K mg base k z n := by
  obtain ⟨fI, fd, ps, i, h0, r⟩ := F.ex
  exact ⟨fI, fd, ps, i, Nat.le_trans h0 h, r⟩
theorem xrNil : ∀ (z : String) (n : Nat), ([] : List (String × Nat)).contains (z, n) = true → RsM P w K mg base k z n := fun _ _ h => nomatch h
theorem xrCons {a : String} {b : Nat} {l : List (String × Nat)} (h : RsM P w K mg base k a b) (t : ∀ z n, l.contains (z, n) = true → RsM P w K mg base k z n) : ∀ z n, ((a, b) :: l).contains (z, n) = true → RsM P w K mg base k z n := pair2 h t
theorem xbNil {xn : List String} : ([] : List String) ≠ [] → FvX.XB K mg [] xn := fun h => (h rfl).elim
theorem eiNil {g : Gv} : ([] : List String) ≠ [] → g.ei = eiX K [] := fun h => (h rfl).elim
end
end Fv
end
section
namespace Fv
open PySem
variable {Γ : Fns} {S : Sg}
theorem via {α : Sort _} {a b : α} (h : a = b) : a = b := h
@[simp] theorem look_fz {x : D} {r : List Sl} : Sg.look (.fz x :: r) 0 = .ok x := via rfl
@[simp] theorem look_own {x : List D} {r : List Sl} : Sg.look (.own x :: r) 0 = .ok (.lst x) := via rfl
@[simp] theorem look_succ {s : Sl} {r : List Sl} {n : Nat} : Sg.look (s :: r) (n + 1) = Sg.look r n := via rfl
@[simp] theorem get_fz {x : D} {r : List Sl} : Sg.get (.fz x :: r) 0 = .ok x := via rfl
@[simp] theorem get_succ {s : Sl} {r : List Sl} {n : Nat} : Sg.get (s :: r) (n + 1) = Sg.get r n := via rfl
@[simp] theorem isOwn_fz {x : D} {r : List Sl} : Sg.isOwn (.fz x :: r) 0 = false := via rfl
@[simp] theorem isOwn_own {x : List D} {r : List Sl} : Sg.isOwn (.own x :: r) 0 = true := via rfl
@[simp] theorem isOwn_succ {s : Sl} {r : List Sl} {n : Nat} : Sg.isOwn (s :: r) (n + 1) = Sg.isOwn r n := via rfl
@[simp] theorem frz_fz {x : D} {r : List Sl} : frzS (.fz x :: r) 0 = .fz x :: r := via rfl
@[simp] theorem frz_own {x : List D} {r : List Sl} : frzS (.own x :: r) 0 = .fz (.lst x) :: r := via rfl
@[simp] theorem frz_no {r : List Sl} : frzS (.no :: r) 0 = .no :: r := via rfl
@[simp] theorem frz_succ {s : Sl} {r : List Sl} {n : Nat} : frzS (s :: r) (n + 1) = s :: frzS r n := by
  unfold frzS
  rw [List.getElem?_cons_succ]
  cases r[n]? with
  | none => rfl
  | some x => cases x <;> rfl
@[simp] theorem sl_d {x : D} : (Val.d x).sl = .fz x := via rfl
@[simp] theorem sl_fr {x : List D} : (Val.fr x).sl = .own x := via rfl
@[simp] theorem D_d {x : D} : (Val.d x).D = x := via rfl
@[simp] theorem D_fr {xs : List D} : (Val.fr xs).D = .lst xs := via rfl
@[simp] theorem evL_var {i : Nat} : evL Γ (.var i) S = S.look i := via rfl
@[simp] theorem evL_cst {x : D} : evL Γ (.cst x) S = .ok x := via rfl
theorem evL_of {e : Ex} (h : isVar e = none) : evL Γ e S = (ev Γ e S >>= fun v => .ok v.D) := by
  cases e <;> first | rfl | cases h
@[simp] theorem evL_bin {o : BOp} {a b : Ex} : evL Γ (.bin o a b) S = (ev Γ (.bin o a b) S >>= fun v => .ok v.D) := via rfl
@[simp] theorem evL_lrg1 {b : Ex} : evL Γ (.lrg1 b) S = (ev Γ (.lrg1 b) S >>= fun v => .ok v.D) := via rfl
@[simp] theorem evL_lrg {a b : Ex} : evL Γ (.lrg a b) S = (ev Γ (.lrg a b) S >>= fun v => .ok v.D) := via rfl
@[simp] theorem evL_cnt {a b : Ex} : evL Γ (.cnt a b) S = (ev Γ (.cnt a b) S >>= fun v => .ok v.D) := via rfl
@[simp] theorem evL_rev {a : Ex} : evL Γ (.rev a) S = (ev Γ (.rev a) S >>= fun v => .ok v.D) := via rfl
@[simp] theorem evL_neg {a : Ex} : evL Γ (.neg a) S = (ev Γ (.neg a) S >>= fun v => .ok v.D) := via rfl
@[simp] theorem evL_nt {a : Ex} : evL Γ (.nt a) S = (ev Γ (.nt a) S >>= fun v => .ok v.D) := via rfl
@[simp] theorem evL_cmp' {o : COp} {a b : Ex} : evL Γ (.cmp o a b) S = (ev Γ (.cmp o a b) S >>= fun v => .ok v.D) := via rfl
@[simp] theorem evL_chn' {o p : COp} {a b c : Ex} : evL Γ (.chn o p a b c) S = (ev Γ (.chn o p a b c) S >>= fun v => .ok v.D) := via rfl
@[simp] theorem evL_and {a b : Ex} : evL Γ (.and a b) S = (ev Γ (.and a b) S >>= fun v => .ok v.D) := via rfl
@[simp] theorem evL_or {a b : Ex} : evL Γ (.or a b) S = (ev Γ (.or a b) S >>= fun v => .ok v.D) := via rfl
@[simp] theorem evL_tup {es : Exs} : evL Γ (.tup es) S = (ev Γ (.tup es) S >>= fun v => .ok v.D) := via rfl
@[simp] theorem evL_lst {es : Exs} : evL Γ (.lst es) S = (ev Γ (.lst es) S >>= fun v => .ok v.D) := via rfl
@[simp] theorem evL_sub {a b : Ex} : evL Γ (.sub a b) S = (ev Γ (.sub a b) S >>= fun v => .ok v.D) := via rfl
@[simp] theorem evL_slc {a b c : Ex} : evL Γ (.slc a b c) S = (ev Γ (.slc a b c) S >>= fun v => .ok v.D) := via rfl
@[simp] theorem evL_slcL {a b : Ex} : evL Γ (.slcL a b) S = (ev Γ (.slcL a b) S >>= fun v => .ok v.D) := via rfl
@[simp] theorem evL_slcH {a b : Ex} : evL Γ (.slcH a b) S = (ev Γ (.slcH a b) S >>= fun v => .ok v.D) := via rfl
@[simp] theorem evL_call {f : String} {es : Exs} : evL Γ (.call f es) S = (ev Γ (.call f es) S >>= fun v => .ok v.D) := via rfl
@[simp] theorem evL_bi {b : Bi} {es : Exs} : evL Γ (.bi b es) S = (ev Γ (.bi b es) S >>= fun v => .ok v.D) := via rfl
@[simp] theorem evL_isa {a : Ex} {c : String} : evL Γ (.isa a c) S = (ev Γ (.isa a c) S >>= fun v => .ok v.D) := via rfl
@[simp] theorem evL_lc {o : List (Str × Nat)} {tg : Tg} {it : It} {c e : Ex} : evL Γ (.lc o tg it c e) S = (ev Γ (.lc o tg it c e) S >>= fun v => .ok v.D) := via rfl
@[simp] theorem evL_fld {cs : List String} {a : Ex} {n : String} : evL Γ (.fld cs a n) S = (ev Γ (.fld cs a n) S >>= fun v => .ok v.D) := via rfl
@[simp] theorem evL_mth {cs : List String} {a : Ex} {n : String} {es : Exs} : evL Γ (.mth cs a n es) S = (ev Γ (.mth cs a n es) S >>= fun v => .ok v.D) := via rfl
@[simp] theorem evL_mk {c : String} {es : Exs} : evL Γ (.mk c es) S = (ev Γ (.mk c es) S >>= fun v => .ok v.D) := via rfl
@[simp] theorem evL_m1 {m : M1} {a b : Ex} : evL Γ (.m1 m a b) S = (ev Γ (.m1 m a b) S >>= fun v => .ok v.D) := via rfl
@[simp] theorem ev_fld {cs : List String} {a : Ex} {n : String} : ev Γ (.fld cs a n) S = (evL Γ a S >>= fun x => fldD cs n x >>= fun y => .ok (.d y)) := via rfl
@[simp] theorem ev_mth {cs : List String} {a : Ex} {m : String} {es : Exs} : ev Γ (.mth cs a m es) S = (evL Γ a S >>= fun x => clsOf cs m x >>= fun c => evsL Γ es S >>= fun xs => Γ (c ++ "." ++ m) (x :: xs) >>= fun v => kept (anyOwn es S) v) := via rfl
@[simp] theorem ev_mk {c : String} {es : Exs} : ev Γ (.mk c es) S = (evs Γ es S >>= fun xs => (Γ (c ++ ".__init__") (.ins c [] [] :: xs)).noEr >>= fun v => newD c v) := via rfl
@[simp] theorem ev_m1 {m : M1} {a b : Ex} : ev Γ (.m1 m a b) S = (evL Γ a S >>= fun x => x.str? >>= fun s => evL Γ b S >>= fun y => m1D m s y) := via rfl
@[simp] theorem str?_str {s : Tx} : (D.str s).str? = .ok s := via rfl
@[simp] theorem ev_var {i : Nat} : ev Γ (.var i) S = (S.get i >>= fun x => .ok (.d x)) := via rfl
@[simp] theorem ev_cst {x : D} : ev Γ (.cst x) S = .ok (.d x) := via rfl
@[simp] theorem ev_bin {o : BOp} {a b : Ex} : ev Γ (.bin o a b) S = (evL Γ a S >>= fun x => evL Γ b S >>= fun y => binD o x y) := via rfl
@[simp] theorem ev_lrg1 {b : Ex} : ev Γ (.lrg1 b) S = (evL Γ b S >>= fun y => y.int? >>= fun j => lrgD 0 j) := via rfl
@[simp] theorem ev_lrg {a b : Ex} : ev Γ (.lrg a b) S = (evL Γ a S >>= fun x => x.int? >>= fun i => evL Γ b S >>= fun y => y.int? >>= fun j => lrgD i j) := via rfl
@[simp] theorem ev_cnt {a b : Ex} : ev Γ (.cnt a b) S = (evL Γ a S >>= fun x => lsI x >>= fun ns => evL Γ b S >>= fun y => y.int? >>= fun k => cntD ns k) := via rfl
@[simp] theorem ev_rev {a : Ex} : ev Γ (.rev a) S = (evL Γ a S >>= fun x => revD x) := via rfl
@[simp] theorem revD_lst {xs : List D} : revD (.lst xs) = .ok (.fr xs.reverse) := via rfl
@[simp] theorem ev_neg {a : Ex} : ev Γ (.neg a) S = (evL Γ a S >>= fun x => x.int? >>= fun i => .ok (.d (.int (-i)))) := via rfl
@[simp] theorem ev_nt {a : Ex} : ev Γ (.nt a) S = (evL Γ a S >>= fun x => x.truth >>= fun k => .ok (.d (.bl (!k)))) := via rfl
@[simp] theorem ev_cmp {o : COp} {a b : Ex} : ev Γ (.cmp o a b) S = (evL Γ a S >>= fun x => evL Γ b S >>= fun y => cmpD o x y >>= fun c => .ok (.d (.bl c))) := via rfl
/-- a test's choice -/
def pick {α : Type} (k : Bool) (a b : α) : α := if k then a else b
@[simp] theorem pick_t {α : Type} {a b : α} : pick true a b = a := via rfl
@[simp] theorem pick_f {α : Type} {a b : α} : pick false a b = b := via rfl
@[simp] theorem ev_chn {o p : COp} {a b c : Ex} : ev Γ (.chn o p a b c) S = (evL Γ a S >>= fun x => evL Γ b S >>= fun y => cmpD o x y >>= fun k => pick k (evL Γ c S >>= fun z => cmpD p y z >>= fun l => .ok (.d (.bl l))) (.ok (.d (.bl false)))) := via rfl
@[simp] theorem ev_and {a b : Ex} : ev Γ (.and a b) S = (ev Γ a S >>= fun v => v.D.truth >>= fun k => pick k (ev Γ b S) (.ok v)) := via rfl
@[simp] theorem ev_or {a b : Ex} : ev Γ (.or a b) S = (ev Γ a S >>= fun v => v.D.truth >>= fun k => pick k (.ok v) (ev Γ b S)) := via rfl
/-- a row of values, short enough -/
def lenR {α : Type} (n : Nat) (r : R α) : R α := if n ≤ LINE then r else .bad
@[simp] theorem lenR_ok {α : Type} {n : Nat} {r : R α} (h : n ≤ 16777216) : lenR n r = r := if_pos h
@[simp] theorem ev_tup {es : Exs} : ev Γ (.tup es) S = (evs Γ es S >>= fun xs => lenR xs.length (.ok (.d (.tup xs)))) := via rfl
@[simp] theorem ev_lst {es : Exs} : ev Γ (.lst es) S = (evs Γ es S >>= fun xs => lenR xs.length (.ok (.fr xs))) := via rfl
@[simp] theorem ev_sub {a i : Ex} : ev Γ (.sub a i) S = (evL Γ a S >>= fun x => evL Γ i S >>= fun k => subD x k >>= fun y => .ok (.d y)) := via rfl
@[simp] theorem ev_slc {a lo hi : Ex} : ev Γ (.slc a lo hi) S = (evL Γ a S >>= fun x => evL Γ lo S >>= fun l => l.int? >>= fun i => evL Γ hi S >>= fun h => h.int? >>= fun j => slcD x (some i) (some j)) := via rfl
@[simp] theorem ev_slcL {a lo : Ex} : ev Γ (.slcL a lo) S = (evL Γ a S >>= fun x => evL Γ lo S >>= fun l => l.int? >>= fun i => slcD x (some i) none) := via rfl
@[simp] theorem ev_slcH {a hi : Ex} : ev Γ (.slcH a hi) S = (evL Γ a S >>= fun x => evL Γ hi S >>= fun h => h.int? >>= fun j => slcD x none (some j)) := via rfl
@[simp] theorem ev_call {f : String} {es : Exs} : ev Γ (.call f es) S = (evsL Γ es S >>= fun xs => Γ f xs >>= fun v => kept (anyOwn es S) v) := via rfl
@[simp] theorem ev_bi {b : Bi} {es : Exs} : ev Γ (.bi b es) S = (evsL Γ es S >>= fun xs => biD b xs) := by
  show (evsL Γ es S >>= fun xs => biD b xs >>= fun v => .ok v) = _
  cases evsL Γ es S with
  | ok xs => show (biD b xs >>= fun v => .ok v) = biD b xs; cases biD b xs <;> rfl
  | er _ _ => rfl
  | bad => rfl
@[simp] theorem ev_isa {a : Ex} {c : String} : ev Γ (.isa a c) S = (evL Γ a S >>= fun x => isaD x c >>= fun k => .ok (.d (.bl k))) := via rfl
noncomputable def elt (Γ : Fns) (e : Ex) (S : Sg) : R D := ev Γ e S >>= fun v => .ok v.D
@[simp] theorem elt_def {e : Ex} : elt Γ e S = (ev Γ e S >>= fun v => .ok v.D) := via rfl
@[simp] theorem ev_lc {o : List (Str × Nat)} {tg : Tg} {it : It} {c e : Ex} : ev Γ (.lc o tg it c e) S = (evI Γ it S >>= fun xs => lenR xs.length (compL tg (wipeS S (o.map (·.2))) (evT Γ c) (elt Γ e) xs [] >>= fun ys => .ok (.fr ys))) := via rfl
@[simp] theorem evs_nil : evs Γ .nil S = .ok [] := via rfl
@[simp] theorem evs_cons {e : Ex} {r : Exs} : evs Γ (.cons e r) S = (ev Γ e S >>= fun v => evs Γ r S >>= fun xs => .ok (v.D :: xs)) := via rfl
@[simp] theorem evsL_nil : evsL Γ .nil S = .ok [] := via rfl
@[simp] theorem evsL_cons {e : Ex} {r : Exs} : evsL Γ (.cons e r) S = (evL Γ e S >>= fun x => evsL Γ r S >>= fun xs => .ok (x :: xs)) := via rfl
@[simp] theorem evI_seq {e : Ex} : evI Γ (.seq e) S = (ev Γ e S >>= fun v => v.D.seq?) := via rfl
@[simp] theorem evI_enum {e : Ex} : evI Γ (.enum e) S = (ev Γ e S >>= fun v => enumD v.D) := via rfl
@[simp] theorem enumD_lst {xs : List D} : enumD (.lst xs) = .ok (numD 0 xs) := via rfl
@[simp] theorem evI_rng {a : Ex} : evI Γ (.rng a) S = (evL Γ a S >>= fun x => x.int? >>= fun j => rngD 0 j) := via rfl
@[simp] theorem evI_rng2 {a b : Ex} : evI Γ (.rng2 a b) S = (evL Γ a S >>= fun x => x.int? >>= fun i => evL Γ b S >>= fun y => y.int? >>= fun j => rngD i j) := via rfl
@[simp] theorem evI_rng3 {a b c : Ex} : evI Γ (.rng3 a b c) S = (evL Γ a S >>= fun x => x.int? >>= fun i => evL Γ b S >>= fun y => y.int? >>= fun j => evL Γ c S >>= fun z => z.int? >>= fun k => rng3D i j k) := via rfl
@[simp] theorem evI_revs {e : Ex} : evI Γ (.revs e) S = (ev Γ e S >>= fun v => revsD v.D) := via rfl
@[simp] theorem revsD_lst {xs : List D} : revsD (.lst xs) = .ok xs.reverse := via rfl
@[simp] theorem revsD_tup {xs : List D} : revsD (.tup xs) = .ok xs.reverse := via rfl
@[simp] theorem evT_def {e : Ex} : evT Γ e S = (evL Γ e S >>= fun x => x.truth) := via rfl
@[simp] theorem anyOwn_nil : anyOwn .nil S = false := via rfl
@[simp] theorem anyOwn_cons {e : Ex} {r : Exs} : anyOwn (.cons e r) S = (ownE e S || anyOwn r S) := via rfl
@[simp] theorem ownE_var {i : Nat} : ownE (.var i) S = S.isOwn i := via rfl
theorem ownE_no {e : Ex} (h : isVar e = none) : ownE e S = false := by cases e <;> first | rfl | cases h
@[simp] theorem ownE_cst {x : D} : ownE (.cst x) S = false := via rfl
@[simp] theorem ownE_bin {o : BOp} {a b : Ex} : ownE (.bin o a b) S = false := via rfl
@[simp] theorem ownE_lrg1 {b : Ex} : ownE (.lrg1 b) S = false := via rfl
@[simp] theorem ownE_lrg {a b : Ex} : ownE (.lrg a b) S = false := via rfl
@[simp] theorem ownE_cnt {a b : Ex} : ownE (.cnt a b) S = false := via rfl
@[simp] theorem ownE_rev {a : Ex} : ownE (.rev a) S = false := via rfl
@[simp] theorem ownE_neg {a : Ex} : ownE (.neg a) S = false := via rfl
@[simp] theorem ownE_nt {a : Ex} : ownE (.nt a) S = false := via rfl
@[simp] theorem ownE_cmp {o : COp} {a b : Ex} : ownE (.cmp o a b) S = false := via rfl
@[simp] theorem ownE_and {a b : Ex} : ownE (.and a b) S = false := via rfl
@[simp] theorem ownE_or {a b : Ex} : ownE (.or a b) S = false := via rfl
@[simp] theorem ownE_tup {es : Exs} : ownE (.tup es) S = false := via rfl
@[simp] theorem ownE_lst {es : Exs} : ownE (.lst es) S = false := via rfl
@[simp] theorem ownE_sub {a b : Ex} : ownE (.sub a b) S = false := via rfl
@[simp] theorem ownE_slc {a b c : Ex} : ownE (.slc a b c) S = false := via rfl
@[simp] theorem ownE_slcL {a b : Ex} : ownE (.slcL a b) S = false := via rfl
@[simp] theorem ownE_slcH {a b : Ex} : ownE (.slcH a b) S = false := via rfl
@[simp] theorem ownE_call {f : String} {es : Exs} : ownE (.call f es) S = false := via rfl
@[simp] theorem ownE_bi {b : Bi} {es : Exs} : ownE (.bi b es) S = false := via rfl
@[simp] theorem ownE_isa {a : Ex} {c : String} : ownE (.isa a c) S = false := via rfl
@[simp] theorem ownE_lc {o : List (Str × Nat)} {tg : Tg} {it : It} {c e : Ex} : ownE (.lc o tg it c e) S = false := via rfl
@[simp] theorem ownE_fld {cs : List String} {a : Ex} {n : String} : ownE (.fld cs a n) S = false := via rfl
@[simp] theorem ownE_mth {cs : List String} {a : Ex} {n : String} {es : Exs} : ownE (.mth cs a n es) S = false := via rfl
@[simp] theorem ownE_mk {c : String} {es : Exs} : ownE (.mk c es) S = false := via rfl
@[simp] theorem ownE_m1 {m : M1} {a b : Ex} : ownE (.m1 m a b) S = false := via rfl
@[simp] theorem kept_no {v : Val} : kept false v = .ok v := via rfl
@[simp] theorem kept_flat {v : Val} {b : Bool} (h : v.flat = true) : kept b v = .ok v := by unfold kept; rw [h]; simp
@[simp] theorem flat_bl {b : Bool} : (Val.d (.bl b)).flat = true := via rfl
@[simp] theorem flat_int {b : Int} : (Val.d (.int b)).flat = true := via rfl
@[simp] theorem flat_str {b : Tx} : (Val.d (.str b)).flat = true := via rfl
@[simp] theorem flat_non : (Val.d .non).flat = true := via rfl
@[simp] theorem int?_int {i : Int} : (D.int i).int? = .ok i := via rfl
@[simp] theorem seq?_lst {xs : List D} : (D.lst xs).seq? = .ok xs := via rfl
@[simp] theorem seq?_tup {xs : List D} : (D.tup xs).seq? = .ok xs := via rfl
@[simp] theorem seq?_str {s : Tx} : (D.str s).seq? = .ok (s.map fun c => .str [c]) := via rfl
@[simp] theorem seq?_scr {ns : List Int} : (D.scr ns).seq? = .ok (ns.map .int) := via rfl
@[simp] theorem truth_bl {b : Bool} : (D.bl b).truth = .ok b := via rfl
@[simp] theorem truth_non : D.non.truth = .ok false := via rfl
@[simp] theorem truth_int {i : Int} : (D.int i).truth = .ok (i != 0) := via rfl
@[simp] theorem truth_lst {xs : List D} : (D.lst xs).truth = .ok (!xs.isEmpty) := via rfl
@[simp] theorem truth_tup {xs : List D} : (D.tup xs).truth = .ok (!xs.isEmpty) := via rfl
@[simp] theorem add_int {i j : Int} : binD .add (.int i) (.int j) = .ok (.d (.int (i + j))) := via rfl
@[simp] theorem sub_int {i j : Int} : binD .sub (.int i) (.int j) = .ok (.d (.int (i - j))) := via rfl
@[simp] theorem mul_lit {i j : Int} (h : i.natAbs < 1606938044258990275541962092341162602522202993782792835301376) (g : j.natAbs < 1606938044258990275541962092341162602522202993782792835301376) : binD .mul (.int i) (.int j) = .ok (.d (.int (i * j))) := by
  have lg : ∀ n : Nat, n < 1606938044258990275541962092341162602522202993782792835301376 → n.log2 ≤ 200 := fun n hn => by
    by_cases hz : n = 0
    · rw [hz]; simp
    · have := (Nat.log2_lt (n := n) (k := 200) hz).mpr (by exact hn)
      omega
  show (if mulOk i j = true then _ else _) = _
  rw [if_pos (by
    unfold mulOk
    rw [decide_eq_true_eq]
    have := lg _ h
    have := lg _ g
    omega)]
/-- numbers of up to 200 bits -/
theorem mul_sm {i j : Int} (h : -1606938044258990275541962092341162602522202993782792835301376 < i ∧ i < 1606938044258990275541962092341162602522202993782792835301376) (g : -1606938044258990275541962092341162602522202993782792835301376 < j ∧ j < 1606938044258990275541962092341162602522202993782792835301376) : binD .mul (.int i) (.int j) = .ok (.d (.int (i * j))) := mul_lit (by omega) (by omega)
theorem mul_int {i j : Int} (h : mulOk i j = true) : binD .mul (.int i) (.int j) = .ok (.d (.int (i * j))) := by
  show (if mulOk i j = true then _ else _) = _
  rw [if_pos h]
theorem divOk_small {j : Int} (h : 0 < j) (h2 : j < 2 ^ 64) : divOk j = true := by
  unfold divOk
  rw [decide_eq_true_eq]
  refine ⟨h, ?_⟩
  by_cases hz : j.natAbs = 0
  · omega
  · have := Nat.log2_lt (n := j.natAbs) (k := 64) hz
    have : j.natAbs.log2 < 64 := this.mpr (by omega)
    omega
@[simp] theorem div_int {i j : Int} (h : 0 < j) (h2 : j < 18446744073709551616) : binD .fdiv (.int i) (.int j) = .ok (.d (.int (i / j))) := by
  show (if divOk j = true then _ else _) = _
  rw [if_pos (divOk_small h (by omega))]
@[simp] theorem mod_int {i j : Int} (h : 0 < j) : binD .mod (.int i) (.int j) = .ok (.d (.int (i % j))) := by
  show (if 0 < j then _ else _) = _
  rw [if_pos h]
@[simp] theorem pow_int {i j : Int} (h : 0 ≤ j) (h2 : j ≤ 1000000) (h3 : i.natAbs < 18446744073709551616) : binD .pow (.int i) (.int j) = .ok (.d (.int (i ^ j.toNat))) := by
  show (if powOk i j = true then _ else _) = _
  rw [if_pos (by unfold powOk; rw [decide_eq_true_eq]; exact ⟨h, h2, h3⟩)]
/-- numbers of at most n bits -/
def Bt (n : Nat) (i : Int) : Prop := i.natAbs < 2 ^ n
instance (n : Nat) (i : Int) : Decidable (Bt n i) := inferInstanceAs (Decidable (_ < _))
theorem Bt.zero {n : Nat} : Bt n 0 := Nat.two_pow_pos n
theorem Bt.one {n : Nat} (h : 0 < n) : Bt n 1 := Nat.one_lt_two_pow (by omega)
theorem Bt.le {n : Nat} {x y : Int} (h0 : 0 ≤ x) (h : x ≤ y) (g : Bt n y) : Bt n x := Nat.lt_of_le_of_lt (by omega) g
theorem Bt.same {n : Nat} {x y : Int} (h : x.natAbs = y.natAbs) (g : Bt n y) : Bt n x := by unfold Bt at *; rw [h]; exact g
theorem Bt.of {n : Nat} {x : Int} (h : 0 ≤ x) (g : x < 2 ^ n) : Bt n x := by
  unfold Bt
  have e : ((2 ^ n : Nat) : Int) = (2 : Int) ^ n := by rw [Int.natCast_pow]; rfl
  omega
theorem Bt.mono {m n : Nat} {i : Int} (h : Bt m i) (e : m ≤ n) : Bt n i := Nat.lt_of_lt_of_le h (Nat.pow_le_pow_right (by decide) e)
theorem Bt.mul {m n : Nat} {i j : Int} (h : Bt m i) (g : Bt n j) : Bt (m + n) (i * j) := by
  unfold Bt at *
  rw [Int.natAbs_mul, Nat.pow_add]
  exact Nat.mul_lt_mul'' h g
theorem Bt.add {m n : Nat} {i j : Int} (h : Bt m i) (g : Bt n j) : Bt (max m n + 1) (i + j) := by
  have h1 := h.mono (Nat.le_max_left m n)
  have h2 := g.mono (Nat.le_max_right m n)
  unfold Bt at *
  rw [Nat.pow_succ]
  have := Int.natAbs_add_le i j
  omega
theorem Bt.sub {m n : Nat} {i j : Int} (h : Bt m i) (g : Bt n j) : Bt (max m n + 1) (i - j) := by
  have h1 := h.mono (Nat.le_max_left m n)
  have h2 := g.mono (Nat.le_max_right m n)
  unfold Bt at *
  rw [Nat.pow_succ]
  omega
theorem Bt.div {n : Nat} {i j : Int} (h : Bt n i) : Bt n (i / j) := Nat.lt_of_le_of_lt (Int.natAbs_ediv_le_natAbs i j) h
theorem Bt.mod {i : Int} {n : Nat} {j : Int} (h : Bt n j) (g : 0 < j) : Bt n (i % j) := by
  unfold Bt at *
  have e := Int.emod_lt_of_pos i g
  have e0 := Int.emod_nonneg i (Int.ne_of_gt g)
  omega
theorem Bt.log {n : Nat} {i : Int} (h : Bt n i) : i.natAbs.log2 ≤ n := by
  by_cases hz : i.natAbs = 0
  · rw [hz]; simp
  · have := (Nat.log2_lt (n := i.natAbs) (k := n) hz).mpr h
    omega
theorem mulOk_bt {m n : Nat} {i j : Int} (h : Bt m i) (g : Bt n j) (e : m + n < 100000000) : mulOk i j = true := by
  unfold mulOk
  rw [decide_eq_true_eq]
  have := h.log
  have := g.log
  omega
theorem mul_bt {i j : Int} (m n : Nat) (h : Bt m i) (g : Bt n j) (e : m + n < 100000000) : binD .mul (.int i) (.int j) = .ok (.d (.int (i * j))) := mul_int (mulOk_bt h g e)
@[simp] theorem cmp_lt {i j : Int} : cmpD .lt (.int i) (.int j) = .ok (decide (i < j)) := via rfl
@[simp] theorem cmp_le {i j : Int} : cmpD .le (.int i) (.int j) = .ok (decide (i ≤ j)) := via rfl
@[simp] theorem cmp_gt {i j : Int} : cmpD .gt (.int i) (.int j) = .ok (decide (j < i)) := via rfl
@[simp] theorem cmp_ge {i j : Int} : cmpD .ge (.int i) (.int j) = .ok (decide (j ≤ i)) := via rfl
theorem dint_inj {i j : Int} : (D.int i = D.int j) ↔ i = j := ⟨fun h => by injection h, fun h => by rw [h]⟩
@[simp] theorem cmp_eq_int {i j : Int} : cmpD .eq (.int i) (.int j) = .ok (decide (i = j)) := by
  show R.ok (decide (D.int i = D.int j)) = _
  congr 1
  exact decide_eq_decide.mpr dint_inj
@[simp] theorem cmp_ne_int {i j : Int} : cmpD .ne (.int i) (.int j) = .ok (!decide (i = j)) := by
  show (cmpD .eq (.int i) (.int j) >>= fun c => R.ok (!c)) = _
  rw [cmp_eq_int]; rfl
@[simp] theorem cmp_eq_bl {a b : Bool} : cmpD .eq (.bl a) (.bl b) = .ok (a == b) := via rfl
@[simp] theorem cmp_ne_bl {a b : Bool} : cmpD .ne (.bl a) (.bl b) = .ok (!(a == b)) := via rfl
@[simp] theorem is_non {a : D} : cmpD .is a .non = .ok (match a with | .non => true | _ => false) := by cases a <;> rfl
@[simp] theorem isn_non {a : D} : cmpD .isn a .non = .ok (match a with | .non => false | _ => true) := by cases a <;> rfl
@[simp] theorem is_bl {a b : Bool} : cmpD .is (.bl a) (.bl b) = .ok (a == b) := via rfl
@[simp] theorem isn_bl {a b : Bool} : cmpD .isn (.bl a) (.bl b) = .ok (!(a == b)) := via rfl
@[simp] theorem bi_len_lst {xs : List D} : biD .len [.lst xs] = .ok (.d (.int xs.length)) := via rfl
@[simp] theorem bi_len_tup {xs : List D} : biD .len [.tup xs] = .ok (.d (.int xs.length)) := via rfl
@[simp] theorem bi_len_scr {xs : List Int} : biD .len [.scr xs] = .ok (.d (.int xs.length)) := via rfl
@[simp] theorem bi_len_str {s : Tx} (h : s.length ≤ 16777216) : biD .len [.str s] = .ok (.d (.int s.length)) := if_pos h
@[simp] theorem bi_str_str {s : Tx} : biD .str [.str s] = .ok (.d (.str s)) := via rfl
@[simp] theorem bi_int_int {i : Int} : biD .int [.int i] = .ok (.d (.int i)) := via rfl
@[simp] theorem bi_int_bl {b : Bool} : biD .int [.bl b] = .ok (.d (.int (if b then 1 else 0))) := via rfl
@[simp] theorem bi_abs {i : Int} : biD .abs [.int i] = .ok (.d (.int (if i < 0 then -i else i))) := via rfl
@[simp] theorem bi_min {i j : Int} : biD .min2 [.int i, .int j] = .ok (.d (.int (if j < i then j else i))) := via rfl
@[simp] theorem bi_max {i j : Int} : biD .max2 [.int i, .int j] = .ok (.d (.int (if j > i then j else i))) := via rfl
@[simp] theorem bi_divmod {i j : Int} (h : 0 < j) (h2 : j < 1073741824) : biD .divmod [.int i, .int j] = .ok (.d (.tup [.int (i / j), .int (i % j)])) := if_pos ⟨h, h2⟩
@[simp] theorem bi_tuple_lst {xs : List D} : biD .tuple [.lst xs] = .ok (.d (.tup xs)) := via rfl
@[simp] theorem bi_tuple_tup {xs : List D} : biD .tuple [.tup xs] = .ok (.d (.tup xs)) := via rfl
@[simp] theorem bi_list_lst {xs : List D} : biD .list [.lst xs] = .ok (.fr xs) := via rfl
@[simp] theorem bi_list_tup {xs : List D} : biD .list [.tup xs] = .ok (.fr xs) := via rfl
@[simp] theorem isa_non_int : isaD .non "int" = .ok false := by simp [isaD, tyD, isaT]
@[simp] theorem isa_non_bool : isaD .non "bool" = .ok false := by simp [isaD, tyD, isaT]
@[simp] theorem isa_non_str : isaD .non "str" = .ok false := by simp [isaD, tyD, isaT]
@[simp] theorem isa_non_list : isaD .non "list" = .ok false := by simp [isaD, tyD, isaT]
@[simp] theorem isa_non_tuple : isaD .non "tuple" = .ok false := by simp [isaD, tyD, isaT]
@[simp] theorem isa_bl_int {b : Bool} : isaD (.bl b) "int" = .ok true := by simp [isaD, tyD, isaT]
@[simp] theorem isa_bl_bool {b : Bool} : isaD (.bl b) "bool" = .ok true := by simp [isaD, tyD, isaT]
@[simp] theorem isa_bl_str {b : Bool} : isaD (.bl b) "str" = .ok false := by simp [isaD, tyD, isaT]
@[simp] theorem isa_bl_list {b : Bool} : isaD (.bl b) "list" = .ok false := by simp [isaD, tyD, isaT]
@[simp] theorem isa_bl_tuple {b : Bool} : isaD (.bl b) "tuple" = .ok false := by simp [isaD, tyD, isaT]
@[simp] theorem isa_int_int {b : Int} : isaD (.int b) "int" = .ok true := by simp [isaD, tyD, isaT]
@[simp] theorem isa_int_bool {b : Int} : isaD (.int b) "bool" = .ok false := by simp [isaD, tyD, isaT]
@[simp] theorem isa_int_str {b : Int} : isaD (.int b) "str" = .ok false := by simp [isaD, tyD, isaT]
@[simp] theorem isa_int_list {b : Int} : isaD (.int b) "list" = .ok false := by simp [isaD, tyD, isaT]
@[simp] theorem isa_int_tuple {b : Int} : isaD (.int b) "tuple" = .ok false := by simp [isaD, tyD, isaT]
@[simp] theorem isa_str_int {b : Tx} : isaD (.str b) "int" = .ok false := by simp [isaD, tyD, isaT]
@[simp] theorem isa_str_bool {b : Tx} : isaD (.str b) "bool" = .ok false := by simp [isaD, tyD, isaT]
@[simp] theorem isa_str_str {b : Tx} : isaD (.str b) "str" = .ok true := by simp [isaD, tyD, isaT]
@[simp] theorem isa_str_list {b : Tx} : isaD (.str b) "list" = .ok false := by simp [isaD, tyD, isaT]
@[simp] theorem isa_str_tuple {b : Tx} : isaD (.str b) "tuple" = .ok false := by simp [isaD, tyD, isaT]
@[simp] theorem isa_lst_int {b : List D} : isaD (.lst b) "int" = .ok false := by simp [isaD, tyD, isaT]
@[simp] theorem isa_lst_bool {b : List D} : isaD (.lst b) "bool" = .ok false := by simp [isaD, tyD, isaT]
@[simp] theorem isa_lst_str {b : List D} : isaD (.lst b) "str" = .ok false := by simp [isaD, tyD, isaT]
@[simp] theorem isa_lst_list {b : List D} : isaD (.lst b) "list" = .ok true := by simp [isaD, tyD, isaT]
@[simp] theorem isa_lst_tuple {b : List D} : isaD (.lst b) "tuple" = .ok false := by simp [isaD, tyD, isaT]
@[simp] theorem isa_tup_int {b : List D} : isaD (.tup b) "int" = .ok false := by simp [isaD, tyD, isaT]
@[simp] theorem isa_tup_bool {b : List D} : isaD (.tup b) "bool" = .ok false := by simp [isaD, tyD, isaT]
@[simp] theorem isa_tup_str {b : List D} : isaD (.tup b) "str" = .ok false := by simp [isaD, tyD, isaT]
@[simp] theorem isa_tup_list {b : List D} : isaD (.tup b) "list" = .ok false := by simp [isaD, tyD, isaT]
@[simp] theorem isa_tup_tuple {b : List D} : isaD (.tup b) "tuple" = .ok true := by simp [isaD, tyD, isaT]
theorem allBl_map : ∀ bs : List Bool, allBl (bs.map D.bl) = some bs
  | [] => rfl
  | b :: r => by
    rw [List.map_cons]
    show (allBl (r.map D.bl)).map (b :: ·) = _
    rw [allBl_map r]; rfl
@[simp] theorem bi_all {bs : List Bool} : biD .all [.lst (bs.map D.bl)] = .ok (.d (.bl (bs.all id))) := by
  show optR (allBl _) _ = _
  rw [allBl_map]; rfl
@[simp] theorem bi_any {bs : List Bool} : biD .any [.lst (bs.map D.bl)] = .ok (.d (.bl (bs.any id))) := by
  show optR (allBl _) _ = _
  rw [allBl_map]; rfl
theorem intsOf_map : ∀ bs : List Int, intsOf (bs.map D.int) = some bs
  | [] => rfl
  | b :: r => by
    rw [List.map_cons]
    show (intsOf (r.map D.int)).map (b :: ·) = _
    rw [intsOf_map r]; rfl
@[simp] theorem bi_sum {bs : List Int} : biD .sum [.lst (bs.map D.int)] = .ok (.d (.int bs.sum)) := by
  show optR (intsOf _) _ = _
  rw [intsOf_map]; rfl
def Out.thn (o : Out) (f : Sg → Out) : Out := match o with
  | .nx S => f S
  | o => o
@[simp] theorem thn_nx {f : Sg → Out} : (Out.nx S).thn f = f S := via rfl
@[simp] theorem thn_rt {v : Val} {f : Sg → Out} : (Out.rt v).thn f = .rt v := via rfl
@[simp] theorem thn_bk {f : Sg → Out} : (Out.bk S).thn f = .bk S := via rfl
@[simp] theorem thn_ct {f : Sg → Out} : (Out.ct S).thn f = .ct S := via rfl
@[simp] theorem exes_nil : exes Γ .nil S = .nx S := via rfl
@[simp] theorem exes_cons {s : Sm} {r : Sms} : exes Γ (.cons s r) S = (exe Γ s S).thn (exes Γ r) := via rfl
@[simp] theorem exes_frz {i : Nat} {r : Sms} : exes Γ (.frz i r) S = exes Γ r (frzS S i) := via rfl
@[simp] theorem exe_set {i : Nat} {e : Ex} : exe Γ (.set i e) S = Out.of (ev Γ e S) fun v => .nx (S.set i v.sl) := via rfl
@[simp] theorem exe_setT {is : List Nat} {e : Ex} : exe Γ (.setT is e) S = Out.of (ev Γ e S) fun v => Out.of ((Tg.tup is).set v.D S) fun S1 => .nx S1 := via rfl
@[simp] theorem exe_aug {i : Nat} {o : BOp} {e : Ex} : exe Γ (.aug i o e) S = Out.of (S.get i) fun x => Out.of (evL Γ e S) fun y => Out.of (augD o x y) fun v => .nx (S.set i (.fz v)) := via rfl
theorem exe_app {i : Nat} {e : Ex} {xs : List D} {v : Val} (h : S[i]? = some (.own xs)) (he : ev Γ e S = .ok v) (hl : xs.length < LINE) : exe Γ (.app i e) S = .nx (S.set i (.own (xs ++ [v.D]))) := by
  show (match S[i]? with
    | some (.own xs) => Out.of (ev Γ e S) fun v => if xs.length < LINE then .nx (S.set i (.own (xs ++ [v.D]))) else .bad
    | _ => .bad) = _
  rw [h, he]
  show (if xs.length < LINE then Out.nx (S.set i (.own (xs ++ [v.D]))) else .bad) = _
  rw [if_pos hl]
def slot (S : Sg) (i : Nat) : Option Sl := S[i]?
@[simp] theorem slot_zero {x : Sl} {r : List Sl} : slot (x :: r) 0 = some x := via rfl
@[simp] theorem slot_succ {x : Sl} {r : List Sl} {n : Nat} : slot (x :: r) (n + 1) = slot r n := via rfl
def apO (o : Option Sl) (f : List D → Out) : Out := match o with
  | some (.own xs) => f xs
  | _ => .bad
@[simp] theorem apO_own {xs : List D} {f : List D → Out} : apO (some (.own xs)) f = f xs := via rfl
def lenO (n : Nat) (o : Out) : Out := if n < LINE then o else .bad
@[simp] theorem lenO_ok {n : Nat} {o : Out} (h : n < 16777216) : lenO n o = o := if_pos h
@[simp] theorem exe_apps {i : Nat} {e : Ex} : exe Γ (.app i e) S = apO (slot S i) fun xs => Out.of (ev Γ e S) fun v => lenO xs.length (.nx (S.set i (.own (xs ++ [v.D])))) := by
  show (match S[i]? with
    | some (.own xs) => Out.of (ev Γ e S) fun v => if xs.length < LINE then .nx (S.set i (.own (xs ++ [v.D]))) else .bad
    | _ => .bad) = _
  unfold apO slot
  rfl
def extO (xs : List D) (S : Sg) (i : Nat) : D → Out
  | .lst zs => if xs.length + zs.length ≤ LINE then .nx (S.set i (.own (xs ++ zs))) else .bad
  | _ => .bad
theorem extO_ok {xs zs : List D} {i : Nat} (h : xs.length + zs.length ≤ 16777216) : extO xs S i (.lst zs) = .nx (S.set i (.own (xs ++ zs))) := if_pos h
@[simp] theorem exe_ext {i : Nat} {e : Ex} : exe Γ (.ext i e) S = apO (slot S i) fun xs => Out.of (evL Γ e S) fun y => extO xs S i y := by
  show (match S[i]? with
    | some (.own xs) => Out.of (evL Γ e S) fun y => match y with
      | .lst zs => if xs.length + zs.length ≤ LINE then .nx (S.set i (.own (xs ++ zs))) else .bad
      | _ => .bad
    | _ => .bad) = _
  unfold apO slot extO
  rfl
@[simp] theorem exe_mov {i j : Nat} : exe Γ (.mov i j) S = apO (slot S j) fun xs => if i ≠ j then Out.nx ((S.set j .no).set i (.own xs)) else Out.bad := by
  show (match S[j]? with
    | some (.own xs) => if i ≠ j then Out.nx ((S.set j .no).set i (.own xs)) else Out.bad
    | _ => Out.bad) = _
  unfold apO slot
  rfl
@[simp] theorem exe_put {i : Nat} {k e : Ex} : exe Γ (.put i k e) S = apO (slot S i) fun xs => Out.of (ev Γ e S) fun v => Out.of (evL Γ k S) fun x => Out.of x.int? fun j => Out.of (optR (ixOf xs.length j) .ok) fun n => .nx (S.set i (.own (xs.set n v.D))) := by
  show (match S[i]? with
    | some (.own xs) => Out.of (ev Γ e S) fun v => Out.of (evL Γ k S) fun x => Out.of x.int? fun j => Out.of (optR (ixOf xs.length j) .ok) fun n => .nx (S.set i (.own (xs.set n v.D)))
    | _ => .bad) = _
  unfold apO slot
  rfl
@[simp] theorem exe_ifs {t : Ex} {a b : Sms} : exe Γ (.ifs t a b) S = Out.of (evT Γ t S) fun k => pick k (exes Γ a S) (exes Γ b S) := via rfl
@[simp] theorem exe_whl {t : Ex} {b : Sms} : exe Γ (.whl t b) S = whlL (evT Γ t) (exes Γ b) FUEL S := via rfl
@[simp] theorem exe_for {tg : Tg} {it : It} {b : Sms} : exe Γ (.for_ tg it b) S = Out.of (evI Γ it S) fun xs => forL tg (exes Γ b) xs S := via rfl
@[simp] theorem exe_exp {e : Ex} : exe Γ (.exp e) S = Out.of (ev Γ e S) fun _ => .nx S := via rfl
@[simp] theorem exe_brk : exe Γ .brk S = .bk S := via rfl
@[simp] theorem exe_cnt : exe Γ .cnt S = .ct S := via rfl
@[simp] theorem exe_pas : exe Γ .pas S = .nx S := via rfl
def rtV (S : Sg) (i : Nat) : Out := match S[i]? with
  | some (.own xs) => .rt (.fr xs)
  | some (.fz x) => .rt (.d x)
  | _ => .bad
@[simp] theorem rtV_fz {x : D} {r : List Sl} : rtV (.fz x :: r) 0 = .rt (.d x) := via rfl
@[simp] theorem rtV_own {x : List D} {r : List Sl} : rtV (.own x :: r) 0 = .rt (.fr x) := via rfl
@[simp] theorem rtV_succ {s : Sl} {r : List Sl} {n : Nat} : rtV (s :: r) (n + 1) = rtV r n := via rfl
@[simp] theorem ret_var {i : Nat} : exe Γ (.ret (.var i)) S = rtV S i := via rfl
theorem ret_of {e : Ex} (h : isVar e = none) : exe Γ (.ret e) S = Out.of (ev Γ e S) fun v => .rt v := by cases e <;> first | rfl | cases h
@[simp] theorem ret_cst {x : D} : exe Γ (.ret (.cst x)) S = .rt (.d x) := via rfl
@[simp] theorem ret_bin {o : BOp} {a b : Ex} : exe Γ (.ret (.bin o a b)) S = Out.of (ev Γ (.bin o a b) S) fun v => .rt v := via rfl
@[simp] theorem ret_lrg1 {b : Ex} : exe Γ (.ret (.lrg1 b)) S = Out.of (ev Γ (.lrg1 b) S) fun v => .rt v := via rfl
@[simp] theorem ret_lrg {a b : Ex} : exe Γ (.ret (.lrg a b)) S = Out.of (ev Γ (.lrg a b) S) fun v => .rt v := via rfl
@[simp] theorem ret_cnt {a b : Ex} : exe Γ (.ret (.cnt a b)) S = Out.of (ev Γ (.cnt a b) S) fun v => .rt v := via rfl
@[simp] theorem ret_rev {a : Ex} : exe Γ (.ret (.rev a)) S = Out.of (ev Γ (.rev a) S) fun v => .rt v := via rfl
@[simp] theorem ret_neg {a : Ex} : exe Γ (.ret (.neg a)) S = Out.of (ev Γ (.neg a) S) fun v => .rt v := via rfl
@[simp] theorem ret_nt {a : Ex} : exe Γ (.ret (.nt a)) S = Out.of (ev Γ (.nt a) S) fun v => .rt v := via rfl
@[simp] theorem ret_cmp {o : COp} {a b : Ex} : exe Γ (.ret (.cmp o a b)) S = Out.of (ev Γ (.cmp o a b) S) fun v => .rt v := via rfl
@[simp] theorem ret_chn {o p : COp} {a b c : Ex} : exe Γ (.ret (.chn o p a b c)) S = Out.of (ev Γ (.chn o p a b c) S) fun v => .rt v := via rfl
@[simp] theorem ret_and {a b : Ex} : exe Γ (.ret (.and a b)) S = Out.of (ev Γ (.and a b) S) fun v => .rt v := via rfl
@[simp] theorem ret_or {a b : Ex} : exe Γ (.ret (.or a b)) S = Out.of (ev Γ (.or a b) S) fun v => .rt v := via rfl
@[simp] theorem ret_tup {es : Exs} : exe Γ (.ret (.tup es)) S = Out.of (ev Γ (.tup es) S) fun v => .rt v := via rfl
@[simp] theorem ret_lst {es : Exs} : exe Γ (.ret (.lst es)) S = Out.of (ev Γ (.lst es) S) fun v => .rt v := via rfl
@[simp] theorem ret_sub {a b : Ex} : exe Γ (.ret (.sub a b)) S = Out.of (ev Γ (.sub a b) S) fun v => .rt v := via rfl
@[simp] theorem ret_slc {a b c : Ex} : exe Γ (.ret (.slc a b c)) S = Out.of (ev Γ (.slc a b c) S) fun v => .rt v := via rfl
@[simp] theorem ret_slcL {a b : Ex} : exe Γ (.ret (.slcL a b)) S = Out.of (ev Γ (.slcL a b) S) fun v => .rt v := via rfl
@[simp] theorem ret_slcH {a b : Ex} : exe Γ (.ret (.slcH a b)) S = Out.of (ev Γ (.slcH a b) S) fun v => .rt v := via rfl
@[simp] theorem ret_call {f : String} {es : Exs} : exe Γ (.ret (.call f es)) S = Out.of (ev Γ (.call f es) S) fun v => .rt v := via rfl
@[simp] theorem ret_bi {b : Bi} {es : Exs} : exe Γ (.ret (.bi b es)) S = Out.of (ev Γ (.bi b es) S) fun v => .rt v := via rfl
@[simp] theorem ret_isa {a : Ex} {c : String} : exe Γ (.ret (.isa a c)) S = Out.of (ev Γ (.isa a c) S) fun v => .rt v := via rfl
@[simp] theorem ret_lc {o : List (Str × Nat)} {tg : Tg} {it : It} {c e : Ex} : exe Γ (.ret (.lc o tg it c e)) S = Out.of (ev Γ (.lc o tg it c e) S) fun v => .rt v := via rfl
@[simp] theorem ret_fld {cs : List String} {a : Ex} {n : String} : exe Γ (.ret (.fld cs a n)) S = Out.of (ev Γ (.fld cs a n) S) fun v => .rt v := via rfl
@[simp] theorem ret_mth {cs : List String} {a : Ex} {n : String} {es : Exs} : exe Γ (.ret (.mth cs a n es)) S = Out.of (ev Γ (.mth cs a n es) S) fun v => .rt v := via rfl
@[simp] theorem ret_mk {c : String} {es : Exs} : exe Γ (.ret (.mk c es)) S = Out.of (ev Γ (.mk c es) S) fun v => .rt v := via rfl
@[simp] theorem ret_m1 {m : M1} {a b : Ex} : exe Γ (.ret (.m1 m a b)) S = Out.of (ev Γ (.m1 m a b) S) fun v => .rt v := via rfl
@[simp] theorem set_one {i : Nat} {x : D} : (Tg.one i).set x S = .ok (S.set i (.fz x)) := via rfl
@[simp] theorem set_lst {is : List Nat} {xs : List D} : (Tg.tup is).set (.lst xs) S = setAll is xs S := via rfl
@[simp] theorem set_tup {is : List Nat} {xs : List D} : (Tg.tup is).set (.tup xs) S = setAll is xs S := via rfl
@[simp] theorem setAll_nil : setAll [] [] S = .ok S := via rfl
@[simp] theorem setAll_cons {i : Nat} {is : List Nat} {x : D} {xs : List D} : setAll (i :: is) (x :: xs) S = setAll is xs (S.set i (.fz x)) := via rfl
@[simp] theorem val_rt {v : Val} : (Out.rt v).val = .ok v := via rfl
@[simp] theorem val_nx : (Out.nx S).val = .ok (.d .non) := via rfl
@[simp] theorem aug_add {i j : Int} : augD .add (.int i) (.int j) = .ok (.int (i + j)) := via rfl
@[simp] theorem aug_sub {i j : Int} : augD .sub (.int i) (.int j) = .ok (.int (i - j)) := via rfl
@[simp] theorem evL_isx {cs : List String} {a : Ex} {c : String} : evL Γ (.isx cs a c) S = (ev Γ (.isx cs a c) S >>= fun v => .ok v.D) := via rfl
@[simp] theorem evL_xfl {cs : List String} {a : Ex} {c : String} : evL Γ (.xfl cs a c) S = (ev Γ (.xfl cs a c) S >>= fun v => .ok v.D) := via rfl
@[simp] theorem ev_isx {cs : List String} {a : Ex} {c : String} : ev Γ (.isx cs a c) S = (evL Γ a S >>= fun x => isxD cs c x >>= fun k => .ok (.d (.bl k))) := via rfl
@[simp] theorem ev_xfl {cs : List String} {a : Ex} {n : String} : ev Γ (.xfl cs a n) S = (evL Γ a S >>= fun x => xflD cs n x >>= fun y => .ok (.d y)) := via rfl
@[simp] theorem ownE_isx {cs : List String} {a : Ex} {c : String} : ownE (.isx cs a c) S = false := via rfl
@[simp] theorem ownE_xfl {cs : List String} {a : Ex} {c : String} : ownE (.xfl cs a c) S = false := via rfl
@[simp] theorem ret_isx {cs : List String} {a : Ex} {c : String} : exe Γ (.ret (.isx cs a c)) S = Out.of (ev Γ (.isx cs a c) S) fun v => .rt v := via rfl
@[simp] theorem ret_xfl {cs : List String} {a : Ex} {c : String} : exe Γ (.ret (.xfl cs a c)) S = Out.of (ev Γ (.xfl cs a c) S) fun v => .rt v := via rfl
@[simp] theorem exe_rse {c : String} {es : Exs} : exe Γ (.rse c es) S = Out.of (evs Γ es S) fun xs => rseO c xs := via rfl
@[simp] theorem exe_tryS {x : Nat} {f : String} {es : Exs} {hs : List Hd} : exe Γ (.tryS x f es hs) S = Out.of (evs Γ es S).noEr fun xs => tryO hs x S (Γ f xs) := via rfl
@[simp] theorem noEr_ok' {α : Type} {a : α} : (R.ok a).noEr = .ok a := via rfl
@[simp] theorem tryO_ok {hs : List Hd} {x : Nat} {v : Val} : tryO hs x S (.ok v) = .nx (S.set x v.sl) := via rfl
@[simp] theorem tryO_er {hs : List Hd} {x : Nat} {c : String} {fs : List D} : tryO hs x S (.er c fs) = hdO hs S c fs := via rfl
@[simp] theorem hdO_nil {c : String} {fs : List D} : hdO [] S c fs = .er c fs := via rfl
theorem hdO_hit {h : Hd} {r : List Hd} {c : String} {fs : List D} (e : h.c = c) (l : h.e < S.length) : hdO (h :: r) S c fs = Out.of (actS c fs h.acts (S.set h.e .no)) fun S1 => .nx (S1.set h.e .no) := by
  show (if h.c = c then (if h.e < S.length then _ else _) else _) = _
  rw [if_pos e, if_pos l]
theorem hdO_miss {h : Hd} {r : List Hd} {c : String} {fs : List D} (e : h.c ≠ c) : hdO (h :: r) S c fs = hdO r S c fs := by
  show (if h.c = c then (if h.e < S.length then _ else _) else _) = _
  rw [if_neg e]
@[simp] theorem actS_nil {c : String} {fs : List D} : actS c fs [] S = .ok S := via rfl
@[simp] theorem actS_keep {c : String} {fs : List D} {y : Nat} {r : List (Nat × Ha)} : actS c fs ((y, .keep) :: r) S = actS c fs r (S.set y (.fz (.exc c (FvX.xNs c) fs))) := via rfl
@[simp] theorem actS_fld {c : String} {fs : List D} {y : Nat} {n : String} {r : List (Nat × Ha)} : actS c fs ((y, .fld n) :: r) S = (xflD [c] n (.exc c (FvX.xNs c) fs) >>= fun v => actS c fs r (S.set y (.fz v))) := via rfl
@[simp] theorem actS_txt {c : String} {fs : List D} {y : Nat} {s : Tx} {r : List (Nat × Ha)} : actS c fs ((y, .txt s) :: r) S = actS c fs r (S.set y (.fz (.str s))) := via rfl
theorem rseO_of {c : String} {xs : List D} (h : xs.length = (FvX.xNs c).length) (g : xs.all D.flat = true) : rseO c xs = .er c xs := if_pos ⟨h, g⟩
theorem isxD_of {cs ns : List String} {c n : String} {xs : List D} (h : c ∈ cs) : isxD cs n (.exc c ns xs) = .ok (FvX.isxB c n) := if_pos h
theorem xflD_of {cs ns : List String} {c n : String} {xs : List D} {y : D} (h : c ∈ cs) (g : n ∈ FvX.xNs c) (l : (ns.zip xs).lookup n = some y) : xflD cs n (.exc c ns xs) = .ok y := by
  show (if c ∈ cs ∧ n ∈ FvX.xNs c then optR ((ns.zip xs).lookup n) R.ok else .bad) = _
  rw [if_pos ⟨h, g⟩, l]
  rfl
@[simp] theorem thn_er {c : String} {fs : List D} {f : Sg → Out} : (Out.er c fs).thn f = .er c fs := via rfl
@[simp] theorem val_er {c : String} {fs : List D} : (Out.er c fs).val = .er c fs := via rfl
theorem run_0 {d : Df} {xs : List D} (h : xs.length = d.np) (hi : isIni d.body = false := by rfl) : run Γ d xs = (exes Γ d.body (xs.map Sl.fz ++ List.replicate (d.nl - d.np) Sl.no)).val := by
  unfold run
  rw [if_neg (by rw [hi]; exact Bool.false_ne_true), if_pos ⟨Nat.le_of_eq h, by omega⟩, h, show d.np + d.dfl.length - d.np = d.dfl.length from by omega, List.drop_length, List.append_nil]
theorem run_of {d : Df} {xs : List D} (h : xs.length ≤ d.np ∧ d.np ≤ xs.length + d.dfl.length) (hi : isIni d.body = false := by rfl) : run Γ d xs = (exes Γ d.body ((xs ++ d.dfl.drop (xs.length + d.dfl.length - d.np)).map Sl.fz ++ List.replicate (d.nl - d.np) Sl.no)).val := (if_neg (by rw [hi]; exact Bool.false_ne_true)).trans (if_pos h)
end Fv
end
section
namespace Fv
open PySem
/-- what follows a turn of a loop -/
def turn (o : Out) (f g : Sg → Out) : Out := match o with
  | .nx S => f S
  | .ct S => f S
  | .bk S => g S
  | o => o
@[simp] theorem turn_nx {S : Sg} {f g : Sg → Out} : turn (.nx S) f g = f S := via rfl
@[simp] theorem turn_ct {S : Sg} {f g : Sg → Out} : turn (.ct S) f g = f S := via rfl
@[simp] theorem turn_bk {S : Sg} {f g : Sg → Out} : turn (.bk S) f g = g S := via rfl
@[simp] theorem turn_rt {v : Val} {f g : Sg → Out} : turn (.rt v) f g = .rt v := via rfl
@[simp] theorem forL_nil {tg : Tg} {b : Sg → Out} {S : Sg} : forL tg b [] S = .nx S := via rfl
theorem forL_cons {tg : Tg} {b : Sg → Out} {x : D} {xs : List D} {S : Sg} : forL tg b (x :: xs) S = Out.of (tg.set x S) fun S1 => turn (b S1) (forL tg b xs) .nx := by
  show (Out.of (tg.set x S) fun S1 => match b S1 with
    | .nx S2 => forL tg b xs S2
    | .ct S2 => forL tg b xs S2
    | .bk S2 => .nx S2
    | o => o) = _
  congr 1
/-- a step's end -/
def Turn (P : Sg → Prop) (R : Out → Prop) (o : Out) : Prop := match o with
  | .nx S => P S
  | .ct S => P S
  | .bk S => R (.nx S)
  | o => R o
@[simp] theorem Turn_nx {P : Sg → Prop} {R : Out → Prop} {S : Sg} : Turn P R (.nx S) = P S := via rfl
@[simp] theorem Turn_ct {P : Sg → Prop} {R : Out → Prop} {S : Sg} : Turn P R (.ct S) = P S := via rfl
@[simp] theorem Turn_bk {P : Sg → Prop} {R : Out → Prop} {S : Sg} : Turn P R (.bk S) = R (.nx S) := via rfl
@[simp] theorem Turn_rt {P : Sg → Prop} {R : Out → Prop} {v : Val} : Turn P R (.rt v) = R (.rt v) := via rfl
@[simp] theorem Turn_er {P : Sg → Prop} {R : Out → Prop} {c : String} {fs : List D} : Turn P R (.er c fs) = R (.er c fs) := via rfl
theorem forL_rule {tg : Tg} {b : Sg → Out} {R : Out → Prop} (P : Nat → Sg → Prop) : ∀ (xs : List D) (S : Sg) (j : Nat), P j S →
    (∀ i x S, xs[i]? = some x → P (j + i) S → ∃ S1, tg.set x S = .ok S1 ∧ Turn (P (j + i + 1)) R (b S1)) → (∀ S, P (j + xs.length) S → R (.nx S)) → R (forL tg b xs S)
  | [], S, j, h0, _, fin => fin S h0
  | x :: xs, S, j, h0, step, fin => by
    obtain ⟨S1, e, t⟩ := step 0 x S rfl h0
    rw [forL_cons, e, Out.of_ok]
    have go : ∀ S2, P (j + 1) S2 → R (forL tg b xs S2) := fun S2 h2 => forL_rule P xs S2 (j + 1) h2
      (fun i y S hy hp => by
        have z := step (i + 1) y S (by simpa using hy)
        have e1 : j + 1 + i = j + (i + 1) := by omega
        rw [e1] at hp ⊢
        exact z hp)
      (fun S hp => fin S (by rw [List.length_cons]; have e1 : j + 1 + xs.length = j + (xs.length + 1) := by omega
                             rw [e1] at hp; exact hp))
    cases e2 : b S1 with
    | nx S2 => rw [e2] at t; exact go S2 t
    | ct S2 => rw [e2] at t; exact go S2 t
    | bk S2 => rw [e2] at t; exact t
    | rt v => rw [e2] at t; exact t
    | er _ _ => rw [e2] at t; exact t
    | bad => rw [e2] at t; exact t
/-- a for: P i ahead of turn i -/
theorem for_rule {tg : Tg} {b : Sg → Out} {R : Out → Prop} {xs : List D} {S : Sg} (P : Nat → Sg → Prop) (h0 : P 0 S)
    (step : ∀ i x S, xs[i]? = some x → P i S → ∃ S1, tg.set x S = .ok S1 ∧ Turn (P (i + 1)) R (b S1)) (fin : ∀ S, P xs.length S → R (.nx S)) : R (forL tg b xs S) :=
  forL_rule P xs S 0 h0 (fun i x S hx hp => by rw [Nat.zero_add] at hp ⊢; exact step i x S hx hp) (fun S hp => fin S (by rw [Nat.zero_add] at hp; exact hp))
/-- a while: P n: n turns more at most -/
theorem whl_rule {t : Sg → R Bool} {b : Sg → Out} {R : Out → Prop} (P : Nat → Sg → Prop)
    (step : ∀ n S, P n S → ∃ k, t S = .ok k ∧ (k = false → R (.nx S)) ∧ (k = true → ∃ m, n = m + 1 ∧ Turn (P m) R (b S))) : ∀ (n f : Nat) (S : Sg), n < f → P n S → R (whlL t b f S)
  | n, 0, S, h, _ => absurd h (Nat.not_lt_zero _)
  | n, f + 1, S, h, h0 => by
    obtain ⟨k, e, h1, h2⟩ := step n S h0
    show R (Out.of (t S) fun k => if k then (match b S with
      | .nx S2 => whlL t b f S2
      | .ct S2 => whlL t b f S2
      | .bk S2 => .nx S2
      | o => o) else .nx S)
    rw [e, Out.of_ok]
    cases k with
    | false => exact h1 rfl
    | true =>
      obtain ⟨m, rfl, t'⟩ := h2 rfl
      rw [if_pos rfl]
      cases e2 : b S with
      | nx S2 => rw [e2] at t'; exact whl_rule P step m f S2 (by omega) t'
      | ct S2 => rw [e2] at t'; exact whl_rule P step m f S2 (by omega) t'
      | bk S2 => rw [e2] at t'; exact t'
      | rt v => rw [e2] at t'; exact t'
      | er _ _ => rw [e2] at t'; exact t'
      | bad => rw [e2] at t'; exact t'
/-- a comprehension: what each item gives -/
theorem compL_map {α : Type} {tg : Tg} {S : Sg} {c : Sg → R Bool} {e : Sg → R D} (f : α → D) (g : α → D) : ∀ (xs : List α) (acc : List D), (∀ x ∈ xs, ∃ S1, tg.set (f x) S = .ok S1 ∧ c S1 = .ok true ∧ e S1 = .ok (g x)) →
    compL tg S c e (xs.map f) acc = .ok (acc ++ xs.map g)
  | [], acc, _ => by show R.ok acc = _; rw [List.map_nil, List.append_nil]
  | x :: xs, acc, h => by
    obtain ⟨S1, e1, e2, e3⟩ := h x (List.mem_cons_self ..)
    show (tg.set (f x) S >>= fun S1 => (c S1).noEr >>= fun b => if b then (e S1).noEr >>= fun y => compL tg S c e (xs.map f) (acc ++ [y]) else compL tg S c e (xs.map f) acc) = _
    rw [e1]
    show ((c S1).noEr >>= fun b => if b then (e S1).noEr >>= fun y => compL tg S c e (xs.map f) (acc ++ [y]) else compL tg S c e (xs.map f) acc) = _
    rw [e2, e3]
    show compL tg S c e (xs.map f) (acc ++ [g x]) = _
    rw [compL_map f g xs _ fun y hy => h y (List.mem_cons_of_mem _ hy), List.map_cons, List.append_assoc]
    rfl
/-- .. with a test -/
theorem compL_filter {α : Type} {tg : Tg} {S : Sg} {c : Sg → R Bool} {e : Sg → R D} (f : α → D) (p : α → Bool) (g : α → D) : ∀ (xs : List α) (acc : List D), (∀ x ∈ xs, ∃ S1, tg.set (f x) S = .ok S1 ∧ c S1 = .ok (p x) ∧ (p x = true → e S1 = .ok (g x))) →
    compL tg S c e (xs.map f) acc = .ok (acc ++ (xs.filter p).map g)
  | [], acc, _ => by show R.ok acc = _; rw [List.filter_nil, List.map_nil, List.append_nil]
  | x :: xs, acc, h => by
    obtain ⟨S1, e1, e2, e3⟩ := h x (List.mem_cons_self ..)
    show (tg.set (f x) S >>= fun S1 => (c S1).noEr >>= fun b => if b then (e S1).noEr >>= fun y => compL tg S c e (xs.map f) (acc ++ [y]) else compL tg S c e (xs.map f) acc) = _
    rw [e1]
    show ((c S1).noEr >>= fun b => if b then (e S1).noEr >>= fun y => compL tg S c e (xs.map f) (acc ++ [y]) else compL tg S c e (xs.map f) acc) = _
    rw [e2]
    have ih := fun acc => compL_filter f p g xs acc fun y hy => h y (List.mem_cons_of_mem _ hy)
    cases hp : p x with
    | false =>
      show compL tg S c e (xs.map f) acc = _
      rw [ih, List.filter_cons, hp]
      rfl
    | true =>
      show ((e S1).noEr >>= fun y => compL tg S c e (xs.map f) (acc ++ [y])) = _
      rw [e3 hp]
      show compL tg S c e (xs.map f) (acc ++ [g x]) = _
      rw [ih, List.filter_cons, hp, if_pos rfl, List.map_cons, List.append_assoc]
      rfl
theorem compL_all {tg : Tg} {S : Sg} {c : Sg → R Bool} {e : Sg → R D} (g : D → D) (xs : List D) (h : ∀ x ∈ xs, ∃ S1, tg.set x S = .ok S1 ∧ c S1 = .ok true ∧ e S1 = .ok (g x)) : compL tg S c e xs [] = .ok (xs.map g) := by
  have z := compL_map (tg := tg) (S := S) (c := c) (e := e) (fun x => x) g xs [] h
  rw [List.map_id'] at z
  rw [z, List.nil_append]
/-- the numbers from lo on, n of them -/
def rngL (lo : Int) (n : Nat) : List Int := (List.range n).map fun k => lo + (k : Nat)
theorem rngD_eq {lo hi : Int} (h : -(2 ^ 62) ≤ lo ∧ lo < 2 ^ 62 ∧ -(2 ^ 62) ≤ hi ∧ hi < 2 ^ 62) : rngD lo hi = .ok ((rngL lo (hi - lo).toNat).map .int) := by
  unfold rngD rngL
  rw [List.map_map]
  rfl
@[simp] theorem rngD_4 : rngD 0 4 = .ok [.int 0, .int 1, .int 2, .int 3] := by
  rw [rngD_eq (by decide)]; rfl
theorem ixOf_nat {n i : Nat} (h : i < n) : ixOf n (i : Int) = some i := by
  unfold ixOf
  rw [if_pos (by omega), if_pos (by omega), Int.toNat_natCast]
theorem sub_tup {xs : List D} {i : Nat} {x : D} (h : xs[i]? = some x) : subD (.tup xs) (.int (i : Int)) = .ok x := by
  have hi : i < xs.length := (List.getElem?_eq_some_iff.mp h).1
  show optR ((ixOf xs.length (i : Int)).bind (xs[·]?)) _ = _
  rw [ixOf_nat hi]
  show optR (xs[i]?) _ = _
  rw [h]; rfl
theorem sub_lst {xs : List D} {i : Nat} {x : D} (h : xs[i]? = some x) : subD (.lst xs) (.int (i : Int)) = .ok x := by
  have hi : i < xs.length := (List.getElem?_eq_some_iff.mp h).1
  show optR ((ixOf xs.length (i : Int)).bind (xs[·]?)) _ = _
  rw [ixOf_nat hi]
  show optR (xs[i]?) _ = _
  rw [h]; rfl
theorem sub_scr {xs : List Int} {i : Nat} {x : Int} (h : xs[i]? = some x) : subD (.scr xs) (.int (i : Int)) = .ok (.int x) := by
  have hi : i < xs.length := (List.getElem?_eq_some_iff.mp h).1
  show optR ((ixOf xs.length (i : Int)).bind (xs[·]?)) _ = _
  rw [ixOf_nat hi]
  show optR (xs[i]?) _ = _
  rw [h]; rfl
theorem rngL_get {lo : Int} {n i : Nat} (h : i < n) : ((rngL lo n).map D.int)[i]? = some (.int (lo + (i : Nat))) := by
  unfold rngL
  rw [List.getElem?_map, List.getElem?_map, List.getElem?_range h]; rfl
theorem rngL_some {lo : Int} {n i : Nat} {x : D} (h : ((rngL lo n).map D.int)[i]? = some x) : i < n ∧ x = .int (lo + (i : Nat)) := by
  have hi : i < n := by
    have := (List.getElem?_eq_some_iff.mp h).1
    simpa [rngL] using this
  rw [rngL_get hi] at h
  exact ⟨hi, (Option.some.inj h).symm⟩
@[simp] theorem rngL_len {lo : Int} {n : Nat} : ((rngL lo n).map D.int).length = n := by simp [rngL]
@[simp] theorem rngL_len' {lo : Int} {n : Nat} : (rngL lo n).length = n := by simp [rngL]
theorem rng_0 {n : Nat} (h : n < 1000000000) : rngD 0 (n : Int) = .ok ((rngL 0 n).map .int) := by
  rw [rngD_eq (by omega)]
  simp
theorem mul_lst {a : List D} {n : Nat} (h : a.length * n ≤ LINE) (hn : n < 1000000000) : binD .mul (.lst a) (.int (n : Int)) = .ok (.fr (List.replicate n a).flatten) := by
  show (if _ ∧ _ ∧ _ then _ else _) = _
  rw [Int.toNat_natCast, if_pos ⟨h, by omega, by omega⟩]
theorem mul_lst1 {x : D} {n : Nat} (hn : n ≤ LINE) : binD .mul (.lst [x]) (.int (n : Int)) = .ok (.fr (List.replicate n x)) := by
  have hl : LINE = 16777216 := rfl
  rw [mul_lst (by rw [List.length_singleton, Nat.one_mul]; exact hn) (by omega)]
  congr 2
  induction n with
  | zero => rfl
  | succ n ih => rw [List.replicate_succ, List.flatten_cons, ih (by omega), List.replicate_succ]; rfl
theorem rng_n {n : Nat} (h : n < 1000000000) : rngD 0 (n : Int) = .ok ((List.range n).map fun i => .int (i : Nat)) := by
  rw [rng_0 h]
  unfold rngL
  rw [List.map_map]
  congr 2
  funext i
  simp
theorem rng_get {n i : Nat} {x : D} (h : ((List.range n).map fun i => D.int (i : Nat))[i]? = some x) : i < n ∧ x = .int (i : Nat) := by
  have hi : i < n := by
    have := (List.getElem?_eq_some_iff.mp h).1
    simpa using this
  rw [List.getElem?_map, List.getElem?_range hi] at h
  exact ⟨hi, (Option.some.inj h).symm⟩
theorem rng2_n {a b : Nat} (ha : a < 1000000000) (hb : b < 1000000000) : rngD (a : Int) (b : Int) = .ok ((List.range (b - a)).map fun i => .int ((a + i : Nat) : Int)) := by
  rw [rngD_eq (by omega)]
  have e : ((b : Int) - (a : Int)).toNat = b - a := by omega
  rw [e]
  unfold rngL
  rw [List.map_map]
  congr 2
/-- a note or a hole -/
def oD : Option Int → D
  | none => .non
  | some i => .int i
@[simp] theorem oD_none : oD none = .non := via rfl
@[simp] theorem oD_some {i : Int} : oD (some i) = .int i := via rfl
/-- does the note at place i agree -/
def okAt (col : List Int) (giv : List (Option Int)) (i : Nat) : Bool := match giv[i]?, col[i]? with
  | some (some g), some c => g == c
  | _, _ => true
theorem okAt_eq {col : List Int} {giv : List (Option Int)} {i : Nat} (h : i < giv.length) (g : i < col.length) : okAt col giv i = (match giv[i] with | some z => z == col[i] | none => true) := by
  unfold okAt
  rw [List.getElem?_eq_getElem h, List.getElem?_eq_getElem g]
  cases giv[i] <;> rfl
theorem range_all {n : Nat} {p : Nat → Bool} {i : Nat} (hi : i < n) (h : p i = false) : (List.range n).all p = false := by
  rw [Bool.eq_false_iff]
  intro z
  rw [List.all_eq_true] at z
  rw [z i (List.mem_range.mpr hi)] at h
  cases h
theorem range_allT {n : Nat} {p : Nat → Bool} (h : ∀ i, i < n → p i = true) : (List.range n).all p = true := by
  rw [List.all_eq_true]
  exact fun i hi => h i (List.mem_range.mp hi)
theorem oD_at {giv : List (Option Int)} {i : Nat} (h : i < giv.length) : (giv.map oD)[i]? = some (oD giv[i]) := by rw [List.getElem?_map, List.getElem?_eq_getElem h]; rfl
theorem int_at {col : List Int} {i : Nat} (h : i < col.length) : (col.map D.int)[i]? = some (.int col[i]) := by rw [List.getElem?_map, List.getElem?_eq_getElem h]; rfl
/-- what is to be said of a column's notes -/
def totB (col : List Int) (giv : List (Option Int)) (pr : Nat → Int) : Nat → Int
  | 0 => 0
  | i + 1 => totB col giv pr i + if okAt col giv i then 0 else pr i
theorem clb_ints (ps : List Int) : clb (.lst (ps.map .int)) = true := by
  show (ps.map D.int).all (D.cl 4) = true
  rw [List.all_eq_true]
  intro x hx
  obtain ⟨i, _, rfl⟩ := List.mem_map.mp hx
  rfl
theorem eq_lst {a b : List D} (h : clb (.lst a) = true) (g : clb (.lst b) = true) : cmpD .eq (.lst a) (.lst b) = .ok (decide (D.lst a = D.lst b)) := by
  show (if (clb (.lst a) && clb (.lst b)) = true then _ else _) = _
  rw [h, g]; rfl
theorem ne_lst {a b : List D} (h : clb (.lst a) = true) (g : clb (.lst b) = true) : cmpD .ne (.lst a) (.lst b) = .ok (!decide (D.lst a = D.lst b)) := by
  show (cmpD .eq (.lst a) (.lst b) >>= fun c => R.ok (!c)) = _
  rw [eq_lst h g]; rfl
/-- a body behind its first statements -/
def dropS : Nat → Sms → Sms
  | 0, b => b
  | n + 1, .cons _ r => dropS n r
  | n + 1, .frz _ r => dropS n r
  | _ + 1, .nil => .nil
/-- the body of the first loop -/
def loopB : Sms → Sms
  | .cons (.for_ _ _ b) _ => b
  | .cons (.whl _ b) _ => b
  | _ => .nil
end Fv
end
section
namespace Fv
open PySem
/-- a law's own name: its slots -/
def aStirred : Df := ⟨2, 7, [], (.cons (.set 2 (.cst (.int 0))) (.cons (.set 3 (.bin .add (.bin .mod (.bin .add (.bin .mod (.var 0) (.cst (.int 998244341))) (.bin .mul (.cst (.int 7919)) (.var 1))) (.cst (.int 998244353))) (.cst (.int 3)))) (.cons (.for_ (.one 4) (.rng (.cst (.int 4))) (.cons (.setT [5, 6] (.bi .divmod (.cons (.var 3) (.cons (.cst (.int 4099)) .nil)))) (.cons (.set 3 (.bin .mod (.bin .add (.bin .add (.bin .add (.bin .mul (.var 6) (.cst (.int 240007))) (.bin .mul (.var 5) (.cst (.int 89)))) (.bin .mul (.cst (.int 1201)) (.var 4))) (.cst (.int 11))) (.cst (.int 998244353)))) (.cons (.set 2 (.bin .add (.bin .mul (.var 2) (.cst (.int 998244353))) (.var 3))) .nil)))) (.cons (.ret (.var 2)) .nil))))⟩
def aGot : Df := ⟨2, 4, [], (.cons (.for_ (.one 2) (.seq (.slc (.var 0) (.var 1) (.bin .add (.var 1) (.cst (.int 1))))) (.cons (.set 3 (.cst (.int 1))) (.cons (.whl (.cmp .le (.var 3) (.bi .abs (.cons (.var 2) .nil))) (.cons (.set 3 (.bin .mul (.var 3) (.bin .pow (.cst (.int 10)) (.cst (.int 6))))) .nil)) (.cons (.ret (.bin .add (.bi .abs (.cons (.var 2) .nil)) (.bin .mul (.var 3) (.call "_law_stirred" (.cons (.bi .abs (.cons (.var 2) .nil)) (.cons (.var 1) .nil)))))) .nil)))) (.cons (.ret (.cst (.int 0))) .nil))⟩
def stirStep (p : Int × Int) (t : Int) : Int × Int :=
  let r := (p.2 % 4099 * 240007 + p.2 / 4099 * 89 + 1201 * t + 11) % 998244353
  (p.1 * 998244353 + r, r)
def stirred (c p : Int) : Int := (stirStep (stirStep (stirStep (stirStep (0, (c % 998244341 + 7919 * p) % 998244353 + 3) 0) 1) 2) 3).1
variable {defs : List (String × Df)}
theorem stirStep_bd {p : Int × Int} {t : Int} : 0 ≤ (stirStep p t).2 ∧ (stirStep p t).2 < 998244353 := ⟨Int.emod_nonneg _ (by decide), Int.emod_lt_of_pos _ (by decide)⟩
theorem stirStep_ge {p : Int × Int} {t : Int} {b : Int} (h : 0 ≤ p.1 ∧ p.1 ≤ b) : 0 ≤ (stirStep p t).1 ∧ (stirStep p t).1 ≤ b * 998244353 + 998244353 := by
  have := @stirStep_bd p t
  show 0 ≤ p.1 * 998244353 + (stirStep p t).2 ∧ p.1 * 998244353 + (stirStep p t).2 ≤ _
  omega
theorem stirred_ge (c p : Int) : 0 ≤ stirred c p ∧ stirred c p < 2 ^ 130 := by
  unfold stirred
  have h0 := @stirStep_ge (0, (c % 998244341 + 7919 * p) % 998244353 + 3) 0 0 ⟨Int.le_refl 0, Int.le_refl 0⟩
  have h1 := @stirStep_ge _ 1 _ h0
  have h2 := @stirStep_ge _ 2 _ h1
  have h3 := @stirStep_ge _ 3 _ h2
  exact ⟨h3.1, Int.lt_of_le_of_lt h3.2 (by decide)⟩
def bStirred : Sms := .cons (.setT [5, 6] (.bi .divmod (.cons (.var 3) (.cons (.cst (.int 4099)) .nil)))) (.cons (.set 3 (.bin .mod (.bin .add (.bin .add (.bin .add (.bin .mul (.var 6) (.cst (.int 240007))) (.bin .mul (.var 5) (.cst (.int 89)))) (.bin .mul (.cst (.int 1201)) (.var 4))) (.cst (.int 11))) (.cst (.int 998244353)))) (.cons (.set 2 (.bin .add (.bin .mul (.var 2) (.cst (.int 998244353))) (.var 3))) .nil))
theorem stir_body {Γ : Fns} (c p : Int) (q : Int × Int) (t : Int) (y z : Sl) (h1 : 0 ≤ q.1 ∧ q.1 < 2 ^ 140) (h2 : 0 ≤ q.2 ∧ q.2 < 998244400) (h3 : 0 ≤ t ∧ t < 4) :
    exes Γ bStirred [.fz (.int c), .fz (.int p), .fz (.int q.1), .fz (.int q.2), .fz (.int t), y, z] = .nx [.fz (.int c), .fz (.int p), .fz (.int (stirStep q t).1), .fz (.int (stirStep q t).2), .fz (.int t), .fz (.int (q.2 / 4099)), .fz (.int (q.2 % 4099))] := by
  obtain ⟨a, b⟩ := q
  simp only [] at h1 h2
  have e1 : b / 4099 < 1000000 := by omega
  simp [bStirred]
  repeat (simp (disch := omega) only [mul_sm]; simp)
  exact ⟨rfl, rfl⟩
theorem stirred_eq (hd : defs.lookup "_law_stirred" = some aStirred) (k : Nat) (c p : Int) (hp : 0 ≤ p ∧ p < 1000000) : mirN defs (k + 1) "_law_stirred" [.int c, .int p] = .ok (.d (.int (stirred c p))) := by
  refine (mirN_run hd _).trans ((run_0 rfl).trans ?_)
  simp [aStirred]
  simp (disch := omega) only [mul_sm]
  simp
  have q0 : 0 ≤ (c % 998244341 + 7919 * p) % 998244353 + 3 ∧ (c % 998244341 + 7919 * p) % 998244353 + 3 < 998244400 := by omega
  have h1 := @stirStep_ge (0, (c % 998244341 + 7919 * p) % 998244353 + 3) 0 0 ⟨Int.le_refl 0, Int.le_refl 0⟩
  have h2 := @stirStep_ge _ 1 _ h1
  have h3 := @stirStep_ge _ 2 _ h2
  have b1 := @stirStep_bd (0, (c % 998244341 + 7919 * p) % 998244353 + 3) 0
  have b2 := fun q => @stirStep_bd q 1
  have b3 := fun q => @stirStep_bd q 2
  rw [show (Sms.cons (Sm.setT [5, 6] (Ex.bi Bi.divmod (Exs.cons (Ex.var 3) (Exs.cons (Ex.cst (D.int 4099)) Exs.nil)))) _ : Sms) = bStirred from rfl]
  rw [forL_cons]; simp only [set_one, Out.of_ok, List.set_cons_succ, List.set_cons_zero]
  rw [stir_body c p (0, (c % 998244341 + 7919 * p) % 998244353 + 3) 0 _ _ (by simp) q0 (by decide), turn_nx]
  rw [forL_cons]; simp only [set_one, Out.of_ok, List.set_cons_succ, List.set_cons_zero]
  rw [stir_body c p _ 1 _ _ (by omega) (by omega) (by decide), turn_nx]
  rw [forL_cons]; simp only [set_one, Out.of_ok, List.set_cons_succ, List.set_cons_zero]
  rw [stir_body c p _ 2 _ _ (by omega) (by have := b2 (stirStep (0, (c % 998244341 + 7919 * p) % 998244353 + 3) 0); omega) (by decide), turn_nx]
  rw [forL_cons]; simp only [set_one, Out.of_ok, List.set_cons_succ, List.set_cons_zero]
  rw [stir_body c p _ 3 _ _ (by omega) (by have := b3 (stirStep (stirStep (0, (c % 998244341 + 7919 * p) % 998244353 + 3) 0) 1); omega) (by decide), turn_nx]
  simp [stirred]
theorem cut_one (ns : List Int) (p : Nat) : cut ns (some (p : Int)) (some ((p : Int) + 1)) = match ns[p]? with | some z => [z] | none => [] := by
  unfold cut
  rw [show ((p : Int) + 1) = ((p + 1 : Nat) : Int) from by omega, HT.sIx_nat, HT.sIx_nat]
  by_cases h : p < ns.length
  · rw [List.getElem?_eq_getElem h, Nat.min_eq_left (Nat.le_of_lt h), Nat.min_eq_left h, List.drop_eq_getElem_cons h]
    show List.take (p + 1 - p) _ = _
    rw [show p + 1 - p = 1 from by omega]
    rfl
  · rw [List.getElem?_eq_none (by omega), List.drop_eq_nil_of_le (by omega), List.take_nil]
theorem two_le (j : Nat) : 2 ^ j ≤ 1000000 ^ j := Nat.pow_le_pow_left (by decide) j
theorem pow_step (j : Nat) : (1000000 : Int) ^ j * 1000000 = 1000000 ^ (j + 1) := by rw [Int.pow_succ]
theorem pow_bt {j : Nat} {c : Int} (h : j = 0 ∨ (1000000 : Int) ^ (j - 1) ≤ c) (hc : Bt 1048576 c) : Bt 1048596 ((1000000 : Int) ^ j) ∧ j ≤ 1048577 := by
  rcases h with rfl | h
  · exact ⟨Bt.one (by decide), by decide⟩
  · cases j with
    | zero => exact ⟨Bt.one (by decide), by decide⟩
    | succ j =>
      rw [Nat.add_sub_cancel] at h
      have e : (1000000 : Int) ^ j = ((1000000 ^ j : Nat) : Int) := by rw [Int.natCast_pow]; rfl
      have b1 : Bt 1048576 ((1000000 : Int) ^ j) := hc.le (Int.pow_nonneg (by decide)) h
      refine ⟨?_, ?_⟩
      · rw [← pow_step]
        exact (b1.mul (n := 20) (by decide)).mono (by decide)
      · have h2 : 2 ^ j < 2 ^ 1048576 := by
          have b2 : ((1000000 : Int) ^ j).natAbs < 2 ^ 1048576 := b1
          rw [e, Int.natAbs_natCast] at b2
          exact Nat.lt_of_le_of_lt (two_le j) b2
        exact Nat.le_trans ((Nat.pow_lt_pow_iff_right (by decide : 1 < 2)).mp h2) (by decide)
/-- the first power of a million above a -/
def isPow (a : Int) (j : Nat) : Prop := (j = 0 ∨ (1000000 : Int) ^ (j - 1) ≤ a) ∧ a < 1000000 ^ j
theorem isPow_le {a : Int} {i j : Nat} (h : isPow a i) (g : isPow a j) : i ≤ j := by
  by_cases hle : i ≤ j
  · exact hle
  · exfalso
    rcases h.1 with h1 | h1
    · omega
    · have e : (1000000 : Int) ^ j ≤ 1000000 ^ (i - 1) := by
        have := Nat.pow_le_pow_right (n := 1000000) (by decide) (show j ≤ i - 1 by omega)
        have e1 : ∀ n : Nat, (1000000 : Int) ^ n = ((1000000 ^ n : Nat) : Int) := fun n => by rw [Int.natCast_pow]; rfl
        rw [e1, e1]
        exact Int.ofNat_le.mpr this
      exact absurd (Int.lt_of_lt_of_le g.2 (Int.le_trans e h1)) (Int.lt_irrefl _)
noncomputable def powJ (a : Int) : Nat := by
  classical
  exact if h : ∃ j, isPow a j then h.choose else 0
theorem powJ_eq {a : Int} {j : Nat} (h : isPow a j) : powJ a = j := by
  unfold powJ
  have hx : ∃ j, isPow a j := ⟨j, h⟩
  rw [dif_pos hx]
  exact Nat.le_antisymm (isPow_le hx.choose_spec h) (isPow_le h hx.choose_spec)
def ab (z : Int) : Int := if z < 0 then -z else z
noncomputable def gotV (ns : List Int) (p : Nat) : Int := match ns[p]? with
  | some z => ab z + 1000000 ^ powJ (ab z) * stirred (ab z) p
  | none => 0
/-- numbers of a script -/
def Sc (ns : List Int) : Prop := ns.length ≤ 63 ∧ ∀ z ∈ ns, Bt 1048576 z
theorem got_eq (hd : defs.lookup "_law_got" = some aGot) (hs : defs.lookup "_law_stirred" = some aStirred) (k : Nat) {ns : List Int} {p : Nat} (hp : p < 1000000) (hb : Sc ns) :
    mirN defs (k + 2) "_law_got" [.scr ns, .int p] = .ok (.d (.int (gotV ns p))) ∧ 0 ≤ gotV ns p ∧ Bt 1100000 (gotV ns p) := by
  have e : mirN defs (k + 2) "_law_got" [.scr ns, .int p] = _ := (mirN_run hd _).trans (run_0 rfl)
  rw [e]
  simp [aGot, slcD, cut_one]
  unfold gotV
  cases hn : ns[p]? with
  | none => exact ⟨by simp, Int.le_refl 0, Bt.zero⟩
  | some z =>
    have hz := hb.2 z (List.mem_of_getElem? hn)
    simp [forL_cons]
    generalize ha : (if z < 0 then -z else z) = a
    have ha' : ab z = a := ha
    rw [ha']
    have a0 : 0 ≤ a ∧ a.natAbs = z.natAbs := by subst ha; split <;> omega
    have hab : Bt 1048576 a := hz.same a0.2
    refine whl_rule (R := fun o => ((turn (o.thn _) _ _).thn _).val = R.ok (Val.d (.int _)) ∧ _) (fun n S => ∃ j : Nat, n + j = 1048600 ∧ (j = 0 ∨ (1000000 : Int) ^ (j - 1) ≤ a) ∧ S = [.fz (.scr ns), .fz (.int p), .fz (.int z), .fz (.int (1000000 ^ j))]) ?_ 1048600 FUEL _ (by decide) ⟨0, rfl, .inl rfl, rfl⟩
    rintro n S ⟨j, hj, hc, rfl⟩
    obtain ⟨b1, b2⟩ := pow_bt hc hab
    refine ⟨decide ((1000000 : Int) ^ j ≤ a), by simp [ha], fun h => ?_, fun h => ?_⟩
    · have st := stirred_eq hs k a p ⟨by omega, by omega⟩
      have sb := stirred_ge a p
      have sB : Bt 130 (stirred a p) := Bt.of sb.1 sb.2
      have p0 : (0 : Int) ≤ 1000000 ^ j := Int.pow_nonneg (by decide)
      have ej : powJ a = j := powJ_eq ⟨hc, Int.not_le.mp (of_decide_eq_false h)⟩
      rw [ej]
      refine ⟨?_, by have := Int.mul_nonneg p0 sb.1; omega, (Bt.add hab (b1.mul sB)).mono (by decide)⟩
      simp [ha, st, mul_int (mulOk_bt b1 sB (by decide))]
    · have h := of_decide_eq_true h
      refine ⟨n - 1, by omega, ?_⟩
      simp
      rw [mul_int (mulOk_bt b1 (n := 20) (by decide) (by decide))]
      simp
      exact ⟨j + 1, by omega, .inr (by rw [Nat.add_sub_cancel]; exact h), by rw [pow_step]⟩
theorem got_lt {ns : List Int} (p : Nat) (h : Sc ns) : 0 ≤ gotV ns p ∧ Bt 1100000 (gotV ns p) := by
  unfold gotV
  cases hn : ns[p]? with
  | none => exact ⟨Int.le_refl 0, Bt.zero⟩
  | some z =>
    have hz := h.2 z (List.mem_of_getElem? hn)
    have e : ∃ j, isPow (ab z) j := by
      refine Classical.byContradiction fun hne => ?_
      have all : ∀ j, (1000000 : Int) ^ j ≤ ab z := by
        intro j
        induction j with
        | zero =>
          refine Int.not_lt.mp fun hlt => hne ⟨0, .inl rfl, hlt⟩
        | succ j ih => exact Int.not_lt.mp fun hlt => hne ⟨j + 1, .inr ih, hlt⟩
      have h1 := all (ab z).toNat
      have h2 : (ab z).toNat < 1000000 ^ (ab z).toNat := Nat.lt_pow_self (by decide)
      have e1 : (1000000 : Int) ^ (ab z).toNat = ((1000000 ^ (ab z).toNat : Nat) : Int) := by rw [Int.natCast_pow]; rfl
      rw [e1] at h1
      have h0 : 0 ≤ ab z := by unfold ab; split <;> omega
      omega
    obtain ⟨j, hj⟩ := e
    have a0 : 0 ≤ ab z ∧ (ab z).natAbs = z.natAbs := by unfold ab; split <;> omega
    have hab : Bt 1048576 (ab z) := hz.same a0.2
    obtain ⟨b1, b2⟩ := pow_bt hj.1 hab
    have sb := stirred_ge (ab z) p
    have sB : Bt 130 (stirred (ab z) p) := Bt.of sb.1 sb.2
    have p0 : (0 : Int) ≤ 1000000 ^ j := Int.pow_nonneg (by decide)
    show 0 ≤ ab z + 1000000 ^ powJ (ab z) * stirred (ab z) p ∧ Bt 1100000 (ab z + 1000000 ^ powJ (ab z) * stirred (ab z) p)
    rw [powJ_eq hj]
    exact ⟨by have := Int.mul_nonneg p0 sb.1; omega, (Bt.add hab (b1.mul sB)).mono (by decide)⟩
theorem script_sc {ns : List Int} (hl : ns.length ≤ 63) (h : ∀ z ∈ ns, Builtin.Int.intBits z ≤ 1048576) : Sc ns := ⟨hl, fun z hz => by
  have h1 := h z hz
  unfold Builtin.Int.intBits at h1
  by_cases hz : z = 0
  · rw [hz]; exact Bt.zero
  · have hb : (z == 0) = false := by simpa using hz
    rw [hb] at h1
    have h2 : z.natAbs.log2 + 1 ≤ 1048576 := h1
    exact (Nat.log2_lt (by omega)).mp h2⟩
/-- cells of a script, first to last -/
def aCells : Df := ⟨3, 4, [], (.cons (.ret (.lc [("_law_k", 3)] (.one 3) (.rng2 (.var 1) (.bi .min2 (.cons (.var 2) (.cons (.bi .len (.cons (.var 0) .nil)) .nil)))) (.cst (.bl true)) (.call "_law_got" (.cons (.var 0) (.cons (.var 3) .nil))))) .nil)⟩
theorem cells_at (hc : defs.lookup "_law_cells" = some aCells) (hd : defs.lookup "_law_got" = some aGot) (hs : defs.lookup "_law_stirred" = some aStirred) (k a b : Nat) (ha : a < 1000) (hb : b < 1000) {ns : List Int} (h : Sc ns) :
    mirN defs (k + 3) "_law_cells" [.scr ns, .int (a : Int), .int (b : Int)] = .ok (.fr ((List.range (min b ns.length - a)).map fun i => .int (gotV ns (a + i)))) := by
  refine (mirN_run hc _).trans ((run_0 rfl).trans ?_)
  have hl := h.1
  have e : (if ns.length < b then (ns.length : Int) else (b : Int)) = ((min b ns.length : Nat) : Int) := by split <;> omega
  have rg := rng2_n (a := a) (b := min b ns.length) (by omega) (by omega)
  have cc : ∀ n, n ≤ 1000 → compL (Tg.one 3) [.fz (.scr ns), .fz (.int a), .fz (.int b), .no] (evT (mirN defs (k + 2)) (.cst (.bl true))) (elt (mirN defs (k + 2)) (.call "_law_got" (.cons (.var 0) (.cons (.var 3) .nil)))) ((List.range n).map fun i => .int ((a + i : Nat) : Int)) [] = .ok ((List.range n).map fun i => .int (gotV ns (a + i))) := fun n hn => by
    rw [compL_map (fun i : Nat => D.int ((a + i : Nat) : Int)) (fun i => .int (gotV ns (a + i))) (List.range n) [] fun i hi => ⟨_, rfl, by simp, by
      have hi := List.mem_range.mp hi
      have g := (got_eq hd hs k (show a + i < 1000000 by omega) h).1
      show elt (mirN defs (k + 2)) (.call "_law_got" (.cons (.var 0) (.cons (.var 3) .nil))) [.fz (.scr ns), .fz (.int a), .fz (.int b), .fz (.int ((a + i : Nat) : Int))] = _
      generalize ((a + i : Nat) : Int) = q at g ⊢
      simp [g]⟩]
    rfl
  have cc := cc (min b ns.length - a) (by omega)
  have l6 : min b ns.length - a ≤ 16777216 := by omega
  generalize (List.range (min b ns.length - a)).map (fun i => D.int (gotV ns (a + i))) = z at cc ⊢
  generalize hX : (List.range (min b ns.length - a)).map (fun i => D.int ((a + i : Nat) : Int)) = X at cc rg
  have xl : X.length ≤ 16777216 := by rw [← hX]; simpa using l6
  simp [aCells, wipeS, e, rg, cc, xl]
end Fv
end
section
namespace Fv
open PySem
/-- plain signs, not too many -/
def Pl (n : Nat) (s : Tx) : Prop := s.all (· < 128) = true ∧ s.length ≤ n
theorem Pl.mono {m n : Nat} {s : Tx} (h : Pl m s) (e : m ≤ n) : Pl n s := ⟨h.1, Nat.le_trans h.2 e⟩
theorem Pl.nil {n : Nat} : Pl n [] := ⟨rfl, Nat.zero_le _⟩
theorem Pl.app {m n : Nat} {a b : Tx} (h : Pl m a) (g : Pl n b) : Pl (m + n) (a ++ b) := ⟨by rw [List.all_append, h.1, g.1]; rfl, by rw [List.length_append]; exact Nat.add_le_add h.2 g.2⟩
theorem Pl.drop {n : Nat} {a : Tx} (h : Pl n a) (k : Nat) : Pl n (a.drop k) := ⟨List.all_eq_true.mpr fun x hx => List.all_eq_true.mp h.1 x (List.mem_of_mem_drop hx), by rw [List.length_drop]; exact Nat.le_trans (Nat.sub_le _ _) h.2⟩
theorem Pl.take {n : Nat} {a : Tx} (h : Pl n a) (k : Nat) : Pl n (a.take k) := ⟨List.all_eq_true.mpr fun x hx => List.all_eq_true.mp h.1 x (List.mem_of_mem_take hx), by rw [List.length_take]; exact Nat.le_trans (Nat.min_le_right _ _) h.2⟩
theorem Pl.one {c : Nat} (h : c < 128) : Pl 1 [c] := ⟨by simp [h], Nat.le_refl _⟩
theorem clb_str {s : Tx} (h : Pl 16777216 s) : clb (.str s) = true := by
  show (s.all (· < 128) && decide (s.length ≤ LINE)) = true
  rw [h.1, decide_eq_true h.2]; rfl
theorem dstr_inj {a b : Tx} : (D.str a = D.str b) ↔ a = b := ⟨fun h => by injection h, fun h => by rw [h]⟩
theorem eq_str {a b : Tx} (h : Pl 16777216 a) (g : Pl 16777216 b) : cmpD .eq (.str a) (.str b) = .ok (decide (a = b)) := by
  show (if (clb (.str a) && clb (.str b)) = true then R.ok (decide (D.str a = D.str b)) else _) = _
  rw [clb_str h, clb_str g]
  show R.ok (decide (D.str a = D.str b)) = _
  congr 1
  exact decide_eq_decide.mpr dstr_inj
theorem ne_str {a b : Tx} (h : Pl 16777216 a) (g : Pl 16777216 b) : cmpD .ne (.str a) (.str b) = .ok (!decide (a = b)) := by
  show (cmpD .eq (.str a) (.str b) >>= fun c => R.ok (!c)) = _
  rw [eq_str h g]; rfl
@[simp] theorem add_str {a b : Tx} (h : a.length + b.length ≤ 16777216) : binD .add (.str a) (.str b) = .ok (.d (.str (a ++ b))) := if_pos h
@[simp] theorem add_lst {a b : List D} (h : a.length + b.length ≤ 16777216) : binD .add (.lst a) (.lst b) = .ok (.fr (a ++ b)) := if_pos h
theorem mul_str {c : Nat} {n : Nat} (h : n ≤ 10000) : binD .mul (.str [c]) (.int (n : Int)) = .ok (.d (.str (List.replicate n c))) := by
  show (if _ ∧ _ ∧ _ ∧ _ then _ else _) = _
  rw [Int.toNat_natCast, if_pos (by refine ⟨?_, rfl, by omega, by omega⟩; rw [List.length_singleton]; show 1 * n ≤ 16777216; omega)]
  congr 3
  induction n with
  | zero => rfl
  | succ n ih => rw [List.replicate_succ, List.flatten_cons, ih (by omega), List.replicate_succ]; rfl
theorem inTx_one (s : Tx) (c : Nat) : inTx [c] s = decide (c ∈ s) := by
  have z := SX.in_one s c
  rw [SX.S_len] at z
  exact z
@[simp] theorem in_one {s : Tx} {c : Nat} : cmpD .inn (.str [c]) (.str s) = .ok (decide (c ∈ s)) := by
  show R.ok (inTx [c] s) = _
  rw [inTx_one]
@[simp] theorem nin_one {s : Tx} {c : Nat} : cmpD .nin (.str [c]) (.str s) = .ok (!decide (c ∈ s)) := by
  show R.ok (!inTx [c] s) = _
  rw [inTx_one]
theorem sub_str {s : Tx} {i : Nat} {c : Nat} (h : s[i]? = some c) (hl : s.length ≤ 16777216) : subD (.str s) (.int (i : Int)) = .ok (.str [c]) := by
  have hi : i < s.length := (List.getElem?_eq_some_iff.mp h).1
  show (if s.length ≤ LINE then optR ((ixOf s.length (i : Int)).bind (s[·]?)) (fun x => R.ok (D.str [x])) else R.bad) = _
  rw [if_pos hl, ixOf_nat hi]
  show optR (s[i]?) _ = _
  rw [h]; rfl
theorem cut_to {α : Type} (xs : List α) (n : Nat) : cut xs none (some (n : Int)) = xs.take n := by
  unfold cut
  rw [HT.sIx_none, HT.sIx_nat, List.drop_zero, Nat.sub_zero]
  by_cases h : n ≤ xs.length
  · rw [Nat.min_eq_left h]
  · rw [Nat.min_eq_right (by omega), List.take_length, List.take_of_length_le (by omega)]
theorem cut_from {α : Type} (xs : List α) (n : Nat) : cut xs (some (n : Int)) none = xs.drop n := by
  unfold cut
  rw [HT.sIx_none, HT.sIx_nat]
  by_cases h : n ≤ xs.length
  · rw [Nat.min_eq_left h, List.take_of_length_le (by rw [List.length_drop]; omega)]
  · rw [Nat.min_eq_right (by omega), List.drop_length, List.drop_eq_nil_of_le (by omega), List.take_nil]
theorem cut_mid {α : Type} (xs : List α) (m n : Nat) : cut xs (some (m : Int)) (some (n : Int)) = (xs.drop m).take (n - m) := by
  unfold cut
  rw [HT.sIx_nat, HT.sIx_nat]
  by_cases h : m ≤ xs.length
  · rw [Nat.min_eq_left h]
    by_cases g : n ≤ xs.length
    · rw [Nat.min_eq_left g]
    · rw [Nat.min_eq_right (show xs.length ≤ n by omega), List.take_of_length_le (by rw [List.length_drop]; omega), List.take_of_length_le (by rw [List.length_drop]; omega)]
  · rw [Nat.min_eq_right (show xs.length ≤ m by omega), List.drop_length, List.drop_eq_nil_of_le (show xs.length ≤ m by omega), List.take_nil, List.take_nil]
theorem slc_str_to {s : Tx} {n : Nat} (h : s.length ≤ 16777216) : slcD (.str s) none (some (n : Int)) = .ok (.d (.str (s.take n))) := by
  show (if s.length ≤ LINE then R.ok (Val.d (.str (cut s none (some (n : Int))))) else .bad) = _
  rw [if_pos h, cut_to]
theorem slc_str_from {s : Tx} {n : Nat} (h : s.length ≤ 16777216) : slcD (.str s) (some (n : Int)) none = .ok (.d (.str (s.drop n))) := by
  show (if s.length ≤ LINE then R.ok (Val.d (.str (cut s (some (n : Int)) none))) else .bad) = _
  rw [if_pos h, cut_from]
theorem slc_lst_to {s : List D} {n : Nat} : slcD (.lst s) none (some (n : Int)) = .ok (.fr (s.take n)) := by
  show R.ok (Val.fr (cut s none (some (n : Int)))) = _
  rw [cut_to]
theorem slc_lst_from {s : List D} {n : Nat} : slcD (.lst s) (some (n : Int)) none = .ok (.fr (s.drop n)) := by
  show R.ok (Val.fr (cut s (some (n : Int)) none)) = _
  rw [cut_from]
theorem itx_nat (n : Nat) : itx (n : Int) = TL.numL n := by
  unfold itx
  rw [SX.num_S]
theorem itx_neg (n : Nat) : itx (-((n + 1 : Nat) : Int)) = 45 :: TL.numL (n + 1) := by
  unfold itx
  have e : toString (-((n + 1 : Nat) : Int)) = "-" ++ Nat.repr (n + 1) := rfl
  have f : toString (((n + 1 : Nat) : Nat) : Int) = Nat.repr (n + 1) := rfl
  have g := TL.tl_num (n + 1)
  rw [f] at g
  rw [e]
  have h : ∀ x : String, (Str.ofString x).cps.toList = x.toList.map Char.toNat := PyProof.Rows.signs_ofString
  rw [h, String.toList_append, List.map_append]
  have g2 : (Str.ofString (Nat.repr (n + 1))).cps.toList = TL.numL (n + 1) := g
  rw [h] at g2
  rw [g2]
  rfl
theorem numL_pl {n k : Nat} (hk : 0 < k) (h : n < 10 ^ k) : Pl k (TL.numL n) := by
  refine ⟨List.all_eq_true.mpr fun c hc => ?_, TL.numL_len hk h⟩
  have := TL.numL_digits n c hc
  exact decide_eq_true (by omega)
theorem itx_pl {i : Int} {k : Nat} (hk : 0 < k) (h : i.natAbs < 10 ^ k) : Pl (k + 1) (itx i) := by
  obtain ⟨n, rfl | rfl⟩ : ∃ n : Nat, i = n ∨ i = -((n + 1 : Nat) : Int) := by
    by_cases h0 : 0 ≤ i
    · exact ⟨i.toNat, .inl (by omega)⟩
    · exact ⟨(-i).toNat - 1, .inr (by omega)⟩
  · rw [itx_nat]
    exact (numL_pl hk (by simpa using h)).mono (by omega)
  · rw [itx_neg]
    have := numL_pl (n := n + 1) hk (by rw [Int.natAbs_neg, Int.natAbs_natCast] at h; exact h)
    exact ⟨by rw [List.all_cons, this.1]; rfl, by rw [List.length_cons]; exact Nat.succ_le_succ this.2⟩
theorem bi_str_int {i : Int} (h : Bt 1900 i) : biD .str [.int i] = .ok (.d (.str (itx i))) := by
  have := h.log
  exact if_pos (by omega)
theorem ten_text (n : Nat) (h : n ≤ 600) : intOf (49 :: List.replicate n 48) = some ((10 ^ n : Nat) : Int) := by
  unfold intOf
  have e := SX.int_S (a := 49 :: List.replicate n 48) (by
    rw [List.all_cons]
    have : (List.replicate n 48).all (fun c => decide (48 ≤ c) && decide (c ≤ 57)) = true := List.all_eq_true.mpr fun x hx => by
      rw [(List.mem_replicate.mp hx).2]; rfl
    rw [this]; rfl) (by simp) (by rw [List.length_cons, List.length_replicate]; omega)
  rw [show (⟨(49 :: List.replicate n 48).toArray⟩ : Str) = SX.S (49 :: List.replicate n 48) from rfl, e]
  congr 2
  unfold NumText.digitsVal
  rw [List.foldl_cons]
  have key : ∀ (n a : Nat), List.foldl (fun acc c => acc * 10 + (c - 48)) a (List.replicate n 48) = a * 10 ^ n := by
    intro n
    induction n with
    | zero => intro a; rw [Nat.pow_zero, Nat.mul_one]; rfl
    | succ n ih => intro a; rw [List.replicate_succ, List.foldl_cons, ih, Nat.pow_succ]; rw [show a * 10 + (48 - 48) = a * 10 from rfl, Nat.mul_assoc, Nat.mul_comm 10]
  rw [key]
  rw [show 0 * 10 + (49 - 48) = 1 from rfl, Nat.one_mul]
theorem bi_int_ten {n : Nat} (h : n ≤ 600) : biD .int [.str (49 :: List.replicate n 48)] = .ok (.d (.int ((10 ^ n : Nat) : Int))) := by
  show (if (49 :: List.replicate n 48).length ≤ 640 then optR (intOf (49 :: List.replicate n 48)) (fun n => R.ok (Val.d (D.int n))) else R.bad) = _
  rw [if_pos (by rw [List.length_cons, List.length_replicate]; omega), ten_text n h]
  rfl
/-- some item of a list -/
theorem sub_lst_in {xs : List D} {i : Int} (h : 0 ≤ i ∧ i < xs.length) : ∃ x, x ∈ xs ∧ subD (.lst xs) (.int i) = .ok x := by
  obtain ⟨n, rfl⟩ : ∃ n : Nat, i = n := ⟨i.toNat, by omega⟩
  have hn : n < xs.length := by omega
  exact ⟨xs[n], List.getElem_mem hn, sub_lst (List.getElem?_eq_getElem hn)⟩
theorem sub_str_in {xs : Tx} {i : Int} (h : 0 ≤ i ∧ i < xs.length) (hl : xs.length ≤ 16777216) : ∃ c, c ∈ xs ∧ subD (.str xs) (.int i) = .ok (.str [c]) := by
  obtain ⟨n, rfl⟩ : ∃ n : Nat, i = n := ⟨i.toNat, by omega⟩
  have hn : n < xs.length := by omega
  exact ⟨xs[n], List.getElem_mem hn, sub_str (List.getElem?_eq_getElem hn) hl⟩
theorem str_in_of {xs : Tx} {i : Int} {r : R D} (hr : subD (.str xs) (.int i) = r) (h : 0 ≤ i ∧ i < xs.length) (hl : xs.length ≤ 16777216) : ∃ c, c ∈ xs ∧ r = .ok (.str [c]) := by
  obtain ⟨c, h1, h2⟩ := sub_str_in h hl
  exact ⟨c, h1, hr.symm.trans h2⟩
theorem lst_in_of {xs : List D} {i : Int} {r : R D} (hr : subD (.lst xs) (.int i) = r) (h : 0 ≤ i ∧ i < xs.length) : ∃ x, x ∈ xs ∧ r = .ok x := by
  obtain ⟨c, h1, h2⟩ := sub_lst_in h
  exact ⟨c, h1, hr.symm.trans h2⟩
theorem pick_lst {xs : List D} {i : Int} {F : R D → R Val} {P : Tx → Prop} (hi : 0 ≤ i ∧ i < xs.length) (hx : ∀ x ∈ xs, ∃ w, x = .str w ∧ P w) (hF : ∀ w, F (.ok (.str w)) = .ok (.d (.str w))) : ∃ w, F (subD (.lst xs) (.int i)) = .ok (.d (.str w)) ∧ P w := by
  obtain ⟨x, h1, h2⟩ := sub_lst_in hi
  obtain ⟨w, rfl, h3⟩ := hx x h1
  exact ⟨w, by rw [h2, hF], h3⟩
theorem pick_str {xs : Tx} {i : Int} {F : R D → R Val} {P : Nat → Prop} (hi : 0 ≤ i ∧ i < xs.length) (hl : xs.length ≤ 16777216) (hx : ∀ x ∈ xs, P x) (hF : ∀ w, F (.ok (.str [w])) = .ok (.d (.str [w]))) : ∃ w, F (subD (.str xs) (.int i)) = .ok (.d (.str [w])) ∧ P w := by
  obtain ⟨x, h1, h2⟩ := sub_str_in hi hl
  exact ⟨x, by rw [h2, hF], hx x h1⟩
end Fv
end
section
set_option maxHeartbeats 1000000
namespace Fv
open PySem
def aIsNumber : Df := ⟨1, 3, [], (.cons (.set 1 (.var 0)) (.frz 1 (.cons (.ifs (.cmp .eq (.slcH (.var 0) (.cst (.int 1))) (.cst (.str [45]))) (.cons (.set 1 (.slcL (.var 0) (.cst (.int 1)))) (.frz 1 (.cons (.ifs (.cmp .eq (.var 1) (.cst (.str [48]))) (.cons (.ret (.cst (.bl false))) .nil) .nil) .nil))) .nil) (.cons (.ifs (.or (.cmp .eq (.var 1) (.cst (.str []))) (.cmp .gt (.bi .len (.cons (.var 1) .nil)) (.cst (.int 40)))) (.cons (.ret (.cst (.bl false))) .nil) .nil) (.cons (.ifs (.and (.cmp .eq (.sub (.var 1) (.cst (.int 0))) (.cst (.str [48]))) (.cmp .gt (.bi .len (.cons (.var 1) .nil)) (.cst (.int 1)))) (.cons (.ret (.cst (.bl false))) .nil) .nil) (.cons (.for_ (.one 2) (.seq (.var 1)) (.cons (.ifs (.cmp .nin (.var 2) (.cst (.str [48, 49, 50, 51, 52, 53, 54, 55, 56, 57]))) (.cons (.ret (.cst (.bl false))) .nil) .nil) .nil)) (.cons (.ret (.cst (.bl true))) .nil)))))))⟩
abbrev FIG : Tx := [48, 49, 50, 51, 52, 53, 54, 55, 56, 57]
/-- figures alone -/
def Dg (f : Tx) : Prop := ∀ c ∈ f, c ∈ FIG
instance (f : Tx) : Decidable (Dg f) := inferInstanceAs (Decidable (∀ c ∈ f, c ∈ FIG))
/-- figures as a number has them -/
def numF (f : Tx) : Prop := f ≠ [] ∧ f.length ≤ 40 ∧ ¬ (f[0]? = some 48 ∧ 1 < f.length) ∧ Dg f
instance (f : Tx) : Decidable (numF f) := inferInstanceAs (Decidable (_ ∧ _ ∧ ¬ (_ ∧ _) ∧ _))
/-- is the word a number -/
def numB : Tx → Bool
  | 45 :: r => decide (r ≠ [48] ∧ numF r)
  | w => decide (numF w)
theorem dig_loop {Γ : Fns} {a b : Sl} {T : Out → Prop} : ∀ (f : Tx) (c : Sl), (Dg f → ∀ c', T (.nx [a, b, c'])) → (¬ Dg f → T (.rt (.d (.bl false)))) →
    T (forL (Tg.one 2) (exes Γ (.cons (.ifs (.cmp .nin (.var 2) (.cst (.str [48, 49, 50, 51, 52, 53, 54, 55, 56, 57]))) (.cons (.ret (.cst (.bl false))) .nil) .nil) .nil)) (f.map fun c => .str [c]) [a, b, c])
  | [], c, h1, _ => h1 (fun _ h => nomatch h) c
  | x :: f, c, h1, h2 => by
    rw [List.map_cons, forL_cons]
    by_cases hx : x ∈ FIG
    · have ih := dig_loop (Γ := Γ) (a := a) (b := b) (T := T) f (.fz (.str [x])) (fun hd => h1 fun y hy => (List.mem_cons.mp hy).elim (fun e => e ▸ hx) (hd y)) (fun hn => h2 fun hd => hn fun y hy => hd y (List.mem_cons_of_mem _ hy))
      have e : decide (x ∈ FIG) = true := decide_eq_true hx
      simp only [set_one, Out.of_ok, List.set_cons_succ, List.set_cons_zero, exes_cons, exe_ifs, evT_def, evL_cmp', ev_cmp, evL_var, look_succ, look_fz, R.ok_bind, evL_cst, nin_one, e, D_d, truth_bl, Bool.not_true, pick_f, exes_nil, thn_nx, turn_nx]
      exact ih
    · have e : decide (x ∈ FIG) = false := decide_eq_false hx
      simp only [set_one, Out.of_ok, List.set_cons_succ, List.set_cons_zero, exes_cons, exe_ifs, evT_def, evL_cmp', ev_cmp, evL_var, look_succ, look_fz, R.ok_bind, evL_cst, nin_one, e, D_d, truth_bl, Bool.not_false, pick_t, ret_cst, thn_rt, turn_rt]
      exact h2 fun hd => hx (hd x (List.mem_cons_self ..))
theorem isnum_rest {Γ : Fns} (w f : Tx) (c : Sl) (h : Pl 16777216 f) : (exes Γ (dropS 3 aIsNumber.body) [.fz (.str w), .fz (.str f), c]).val = .ok (.d (.bl (decide (numF f)))) := by
  have l1 := bi_len_str (s := f) (show f.length ≤ 16777216 from Nat.le_trans h.2 (by decide))
  have e0 := eq_str (h.mono (by decide)) (b := []) Pl.nil
  cases f with
  | nil => simp [dropS, aIsNumber, e0, l1, numF]
  | cons x r =>
    have s0 : subD (.str (x :: r)) (.int 0) = .ok (.str [x]) := sub_str (i := 0) rfl (Nat.le_trans h.2 (by decide))
    have hx : x < 128 := of_decide_eq_true (List.all_eq_true.mp h.1 x (List.mem_cons_self ..))
    have e1 := eq_str ((Pl.one hx).mono (by decide)) (b := [48]) (show Pl 16777216 [48] from ⟨rfl, by decide⟩)
    by_cases h40 : (40 : Int) < (r.length : Int) + 1
    · have hn : ¬ numF (x :: r) := fun z => by
        have := z.2.1
        rw [List.length_cons] at this
        omega
      simp [dropS, aIsNumber, e0, l1, s0, e1, h40, hn]
    · by_cases hz : x = 48 ∧ (0 : Int) < (r.length : Int)
      · obtain ⟨rfl, hz⟩ := hz
        have hn : ¬ numF (48 :: r) := fun z => z.2.2.1 ⟨rfl, by rw [List.length_cons]; omega⟩
        have hz1 : (1 : Int) < (r.length : Int) + 1 := by omega
        simp [dropS, aIsNumber, e0, l1, s0, e1, h40, hn, hz1]
      · have hd : numF (x :: r) ↔ Dg (x :: r) := ⟨fun z => z.2.2.2, fun z => ⟨by simp, by rw [List.length_cons]; omega, fun y => hz ⟨by simpa using y.1, by have := y.2; rw [List.length_cons] at this; omega⟩, z⟩⟩
        have hz1 : ¬ (x = 48 ∧ (1 : Int) < (r.length : Int) + 1) := fun y => hz ⟨y.1, by omega⟩
        have pre : exes Γ (dropS 3 aIsNumber.body) [.fz (.str w), .fz (.str (x :: r)), c] = exes Γ (dropS 5 aIsNumber.body) [.fz (.str w), .fz (.str (x :: r)), c] := by
          by_cases hx48 : x = 48
          · have h1 : ¬ ((1 : Int) < (r.length : Int) + 1) := fun y => hz1 ⟨hx48, y⟩
            subst hx48
            simp [dropS, aIsNumber, e0, l1, s0, e1, h40, h1]
          · simp [dropS, aIsNumber, e0, l1, s0, e1, h40, hx48]
        rw [pre]
        have e2 : exes Γ (dropS 5 aIsNumber.body) [.fz (.str w), .fz (.str (x :: r)), c] = (forL (Tg.one 2) (exes Γ (.cons (.ifs (.cmp .nin (.var 2) (.cst (.str [48, 49, 50, 51, 52, 53, 54, 55, 56, 57]))) (.cons (.ret (.cst (.bl false))) .nil) .nil) .nil)) ((x :: r).map fun c => .str [c]) [.fz (.str w), .fz (.str (x :: r)), c]).thn (exes Γ (.cons (.ret (.cst (.bl true))) .nil)) := by
          simp [dropS, aIsNumber]
        rw [e2, decide_eq_decide.mpr hd]
        refine dig_loop (T := fun o => (o.thn _).val = R.ok (Val.d (.bl (decide (Dg (x :: r)))))) (x :: r) c (fun hd c' => ?_) fun hn => ?_
        · simp [hd]
        · simp [hn]
theorem is_number_eq {defs : List (String × Df)} (hd : defs.lookup "is_number" = some aIsNumber) (k : Nat) (w : Tx) (h : Pl 16777216 w) : mirN defs (k + 1) "is_number" [.str w] = .ok (.d (.bl (numB w))) := by
  refine (mirN_run hd _).trans ((run_0 rfl).trans ?_)
  have t1 : slcD (.str w) none (some 1) = .ok (.d (.str (w.take 1))) := slc_str_to (n := 1) (Nat.le_trans h.2 (by decide))
  have t2 : slcD (.str w) (some 1) none = .ok (.d (.str (w.drop 1))) := slc_str_from (n := 1) (Nat.le_trans h.2 (by decide))
  have e1 := eq_str ((h.take 1).mono (by decide)) (b := [45]) (show Pl 16777216 [45] from ⟨rfl, by decide⟩)
  by_cases hw : ∃ r, w = 45 :: r
  · obtain ⟨r, rfl⟩ := hw
    have hr : Pl 16777216 r := h.drop 1
    have e2 := eq_str (hr.mono (by decide)) (b := [48]) (show Pl 16777216 [48] from ⟨rfl, by decide⟩)
    have e45 := eq_str (a := [45]) (b := [45]) (show Pl 16777216 [45] from ⟨rfl, by decide⟩) (show Pl 16777216 [45] from ⟨rfl, by decide⟩)
    show _ = R.ok (Val.d (.bl (decide (r ≠ [48] ∧ numF r))))
    by_cases hz : r = [48]
    · subst hz
      simp [aIsNumber, t1, t2, e45, e2]
    · have z := isnum_rest (Γ := mirN defs k) (45 :: r) r .no hr
      have e3 : decide (r ≠ [48] ∧ numF r) = decide (numF r) := decide_eq_decide.mpr ⟨fun y => y.2, fun y => ⟨hz, y⟩⟩
      rw [e3, ← z]
      simp [aIsNumber, t1, t2, e45, e2, hz, dropS]
  · have z := isnum_rest (Γ := mirN defs k) w w .no h
    have e3 : numB w = decide (numF w) := by
      unfold numB
      split
      · exact absurd ⟨_, rfl⟩ hw
      · rfl
    have e4 : w.take 1 ≠ [45] := fun y => hw (by
      cases w with
      | nil => cases y
      | cons a r =>
        rw [List.take_succ_cons, List.take_zero] at y
        cases y
        exact ⟨r, rfl⟩)
    rw [e3, ← z]
    simp [aIsNumber, t1, t2, e1, e4, dropS]
theorem numL_head : ∀ n : Nat, 0 < n → ∃ d r, TL.numL n = d :: r ∧ d ≠ 48 := by
  intro n
  induction n using Nat.strongRecOn with
  | _ n ih =>
    intro h
    by_cases h10 : n < 10
    · exact ⟨48 + n, [], TL.numL_lt h10, by omega⟩
    · obtain ⟨d, r, e, hd⟩ := ih (n / 10) (by omega) (by omega)
      exact ⟨d, r ++ [48 + n % 10], by rw [TL.numL_step (by omega), e]; rfl, hd⟩
theorem numL_dg (n : Nat) : Dg (TL.numL n) := fun c hc => by
  have := TL.numL_digits n c hc
  have h : c = 48 ∨ c = 49 ∨ c = 50 ∨ c = 51 ∨ c = 52 ∨ c = 53 ∨ c = 54 ∨ c = 55 ∨ c = 56 ∨ c = 57 := by omega
  simp only [List.mem_cons, List.mem_nil_iff, or_false]
  exact h
theorem numF_numL {n : Nat} (h : n < 10 ^ 40) : numF (TL.numL n) := by
  refine ⟨TL.numL_ne n, TL.numL_len (by decide) h, ?_, numL_dg n⟩
  rintro ⟨h1, h2⟩
  by_cases h0 : n = 0
  · subst h0
    rw [TL.numL_lt (by decide)] at h2
    exact absurd h2 (by decide)
  · obtain ⟨d, r, e, hd⟩ := numL_head n (by omega)
    rw [e] at h1
    exact hd (Option.some.inj h1)
theorem numB_plain {w : Tx} (h : ¬ ∃ r, w = 45 :: r) : numB w = decide (numF w) := by
  unfold numB
  split
  · exact absurd ⟨_, rfl⟩ h
  · rfl
theorem int_case (i : Int) : (∃ n : Nat, i = n) ∨ ∃ n : Nat, i = -((n + 1 : Nat) : Int) := by
  by_cases h0 : 0 ≤ i
  · exact .inl ⟨i.toNat, by omega⟩
  · exact .inr ⟨(-i).toNat - 1, by omega⟩
theorem numB_itx {i : Int} (h : i.natAbs < 10 ^ 40) : numB (itx i) = true := by
  rcases int_case i with ⟨n, rfl⟩ | ⟨n, rfl⟩
  · rw [itx_nat, numB_plain, decide_eq_true (numF_numL (by simpa using h))]
    rintro ⟨r, e⟩
    have := TL.numL_digits n 45 (by rw [e]; exact List.mem_cons_self ..)
    omega
  · rw [itx_neg]
    have hn : n + 1 < 10 ^ 40 := by rw [Int.natAbs_neg, Int.natAbs_natCast] at h; exact h
    refine decide_eq_true ⟨fun e => ?_, numF_numL hn⟩
    obtain ⟨d, r, e2, hd⟩ := numL_head (n + 1) (by omega)
    rw [e] at e2
    cases e2
    exact hd rfl
theorem itx_sign {i : Int} {c : Nat} (h : c ∈ itx i) : c = 45 ∨ (48 ≤ c ∧ c ≤ 57) := by
  rcases int_case i with ⟨n, rfl⟩ | ⟨n, rfl⟩
  · rw [itx_nat] at h
    exact .inr (TL.numL_digits n c h)
  · rw [itx_neg] at h
    rcases List.mem_cons.mp h with rfl | h
    · exact .inl rfl
    · exact .inr (TL.numL_digits _ c h)
theorem int_back {i : Int} (h : i.natAbs < 10 ^ 40) : intOf (itx i) = some i := by
  unfold intOf
  rcases int_case i with ⟨n, rfl⟩ | ⟨n, rfl⟩
  · rw [itx_nat]
    have hl := TL.numL_len (n := n) (k := 40) (by decide) (by simpa using h)
    have e := intText_digits (x := (⟨(TL.numL n).toArray⟩ : Str)) (TL.numL_digits n) (TL.numL_ne n) (by show (⟨(TL.numL n).toArray⟩ : Str).length ≤ 4300; rw [show (⟨(TL.numL n).toArray⟩ : Str).length = (TL.numL n).length from SX.S_len _]; omega)
    rw [e]
    show some ((NumText.digitsVal (TL.numL n) : Nat) : Int) = _
    rw [TL.numL_val]
  · rw [itx_neg]
    have hn : n + 1 < 10 ^ 40 := by rw [Int.natAbs_neg, Int.natAbs_natCast] at h; exact h
    have hl := TL.numL_len (n := n + 1) (k := 40) (by decide) hn
    have e := intText_neg (x := (⟨(45 :: TL.numL (n + 1)).toArray⟩ : Str)) rfl (TL.numL_digits (n + 1)) (TL.numL_ne _) (by rw [show (⟨(45 :: TL.numL (n + 1)).toArray⟩ : Str).length = (45 :: TL.numL (n + 1)).length from SX.S_len _, List.length_cons]; omega)
    rw [e, TL.numL_val]
theorem itx_ne (i : Int) : itx i ≠ [] := by
  rcases int_case i with ⟨n, rfl⟩ | ⟨n, rfl⟩
  · rw [itx_nat]; exact TL.numL_ne n
  · rw [itx_neg]; simp
theorem bi_int_itx {i : Int} (h : i.natAbs < 10 ^ 40) : biD .int [.str (itx i)] = .ok (.d (.int i)) := by
  have hl := (itx_pl (k := 40) (by decide) h).2
  show (if (itx i).length ≤ 640 then optR (intOf (itx i)) (fun n => R.ok (Val.d (D.int n))) else R.bad) = _
  rw [if_pos (by omega), int_back h]
  rfl
end Fv
end
section
set_option maxHeartbeats 1000000
namespace Fv
open PySem
theorem joinL_snoc (a : Tx) : ∀ (xs : List Tx) (x : Tx), TL.joinL a (xs ++ [x]) = if xs = [] then x else TL.joinL a xs ++ (a ++ x)
  | [], x => rfl
  | [y], x => by simp [TL.joinL]
  | y :: z :: r, x => by
    show y ++ (a ++ TL.joinL a ((z :: r) ++ [x])) = _
    rw [joinL_snoc a (z :: r) x]
    simp [TL.joinL]
theorem joinL_cons (a x : Tx) {xs : List Tx} (h : xs ≠ []) : TL.joinL a (x :: xs) = x ++ (a ++ TL.joinL a xs) := by
  cases xs with
  | nil => exact absurd rfl h
  | cons y r => rfl
theorem joinL_in {a : Tx} {c : Nat} : ∀ {ys : List Tx}, c ∈ TL.joinL a ys → c ∈ a ∨ ∃ y ∈ ys, c ∈ y
  | [], h => nomatch h
  | [y], h => .inr ⟨y, List.mem_singleton.mpr rfl, h⟩
  | y :: z :: r, h => by
    have h : c ∈ y ++ (a ++ TL.joinL a (z :: r)) := h
    rcases List.mem_append.mp h with h | h
    · exact .inr ⟨y, List.mem_cons_self .., h⟩
    · rcases List.mem_append.mp h with h | h
      · exact .inl h
      · rcases joinL_in h with h | ⟨w, hw, h⟩
        · exact .inl h
        · exact .inr ⟨w, List.mem_cons_of_mem _ hw, h⟩
theorem joinL_len {b : Nat} : ∀ {ys : List Tx} {s : Nat}, (∀ y ∈ ys, y.length ≤ b) → (TL.joinL [s] ys).length ≤ ys.length * (b + 1)
  | [], _, _ => Nat.zero_le _
  | [y], _, h => by
    have := h y (List.mem_singleton.mpr rfl)
    show y.length ≤ 1 * (b + 1)
    omega
  | y :: z :: r, s, h => by
    have h1 := h y (List.mem_cons_self ..)
    have h2 := joinL_len (ys := z :: r) (s := s) fun w hw => h w (List.mem_cons_of_mem _ hw)
    show (y ++ ([s] ++ TL.joinL [s] (z :: r))).length ≤ _
    rw [List.length_append, List.length_append, List.length_singleton]
    have e : (y :: z :: r).length * (b + 1) = (z :: r).length * (b + 1) + (b + 1) := by rw [List.length_cons, Nat.add_mul, Nat.one_mul]
    omega
theorem sum_le {b : Nat} : ∀ {ys : List Tx}, (∀ y ∈ ys, y.length ≤ b) → (ys.map List.length).sum ≤ ys.length * b
  | [], _ => Nat.zero_le _
  | y :: r, h => by
    have h1 := h y (List.mem_cons_self ..)
    have h2 := sum_le (ys := r) fun w hw => h w (List.mem_cons_of_mem _ hw)
    rw [List.map_cons, List.sum_cons, List.length_cons, Nat.add_mul, Nat.one_mul]
    omega
def strsD (ys : List Tx) : List D := ys.map .str
@[simp] theorem strsD_len (ys : List Tx) : (strsD ys).length = ys.length := List.length_map ..
theorem strsD_cons (y : Tx) (ys : List Tx) : strsD (y :: ys) = .str y :: strsD ys := rfl
theorem strsD_snoc (ys : List Tx) (y : Tx) : strsD ys ++ [.str y] = strsD (ys ++ [y]) := by unfold strsD; rw [List.map_append]; rfl
theorem strsD_drop (ys : List Tx) (n : Nat) : (strsD ys).drop n = strsD (ys.drop n) := by unfold strsD; rw [List.map_drop]
theorem strsD_take (ys : List Tx) (n : Nat) : (strsD ys).take n = strsD (ys.take n) := by unfold strsD; rw [List.map_take]
theorem strsD_at {c : List Tx} {i : Nat} (h : i < c.length) : (strsD c)[i]? = some (.str c[i]) := by unfold strsD; rw [List.getElem?_map, List.getElem?_eq_getElem h]; rfl
theorem strsOf_map : ∀ ys : List Tx, strsOf (strsD ys) = some ys
  | [] => rfl
  | y :: r => by
    show (strsOf (strsD r)).map (y :: ·) = _
    rw [strsOf_map r]; rfl
theorem m1_join {a : Tx} {ys : List Tx} {b : Nat} (h : ∀ y ∈ ys, y.length ≤ b) (ha : a.length = 1) (hl : ys.length * (b + 1) ≤ 16777216) : m1D .join a (.lst (strsD ys)) = .ok (.d (.str (TL.joinL a ys))) := by
  show optR (strsOf (strsD ys)) (fun ys => if (ys.map List.length).sum + ys.length * a.length ≤ LINE then R.ok (Val.d (.str (TL.joinL a ys))) else .bad) = _
  rw [strsOf_map]
  show (if (ys.map List.length).sum + ys.length * a.length ≤ LINE then R.ok (Val.d (.str (TL.joinL a ys))) else .bad) = _
  have := sum_le h
  rw [if_pos (by rw [ha, Nat.mul_one]; rw [Nat.mul_add, Nat.mul_one] at hl; show _ ≤ 16777216; omega)]
theorem m1_split {s : Nat} {ys : List Tx} (hs : s < 256) (hne : ys ≠ []) (hf : ∀ y ∈ ys, s ∉ y) (hl : (TL.joinL [s] ys).length + 2 ≤ 16777216) : m1D .split (TL.joinL [s] ys) (.str [s]) = .ok (.fr (strsD ys)) := by
  show (if _ ∧ _ ∧ _ then _ else _) = _
  rw [if_pos ⟨by simp, by simp [hs], hl⟩, TL.spl_join hne hf]
  rfl
def intsD (c : List Int) : List D := c.map .int
@[simp] theorem intsD_len (c : List Int) : (intsD c).length = c.length := List.length_map ..
theorem intsD_nil : intsD [] = [] := rfl
theorem intsD_cons (y : Int) (ys : List Int) : intsD (y :: ys) = .int y :: intsD ys := rfl
theorem intsD_snoc (ys : List Int) (y : Int) : intsD ys ++ [.int y] = intsD (ys ++ [y]) := by unfold intsD; rw [List.map_append]; rfl
theorem intsD_at {c : List Int} {i : Nat} (h : i < c.length) : (intsD c)[i]? = some (.int c[i]) := int_at h
theorem intsD_app (a b : List Int) : intsD a ++ intsD b = intsD (a ++ b) := by unfold intsD; rw [List.map_append]
theorem intsD_drop (ys : List Int) (n : Nat) : (intsD ys).drop n = intsD (ys.drop n) := by unfold intsD; rw [List.map_drop]
theorem intsD_take (ys : List Int) (n : Nat) : (intsD ys).take n = intsD (ys.take n) := by unfold intsD; rw [List.map_take]
theorem intsD_set (ys : List Int) (n : Nat) (y : Int) : (intsD ys).set n (.int y) = intsD (ys.set n y) := by unfold intsD; rw [List.map_set]
theorem intsD_inj {a b : List Int} : intsD a = intsD b ↔ a = b := ⟨fun h => by
  have := congrArg (List.map fun d => match d with | D.int i => i | _ => 0) h
  unfold intsD at this
  rw [List.map_map, List.map_map] at this
  have e : ∀ c : List Int, c.map ((fun d => match d with | D.int i => i | _ => 0) ∘ D.int) = c := fun c => by
    rw [show ((fun d => match d with | D.int i => i | _ => 0) ∘ D.int) = id from rfl, List.map_id]
  rwa [e, e] at this, fun h => by rw [h]⟩
theorem intsD_mem {c : List Int} {x : Int} : D.int x ∈ intsD c ↔ x ∈ c := by
  unfold intsD
  rw [List.mem_map]
  exact ⟨fun ⟨y, h, e⟩ => by cases e; exact h, fun h => ⟨x, h, rfl⟩⟩
theorem in_all (c : List Int) : (intsD c).all (D.cl 0) = true := by
  rw [List.all_eq_true]
  intro x hx
  obtain ⟨i, _, rfl⟩ := List.mem_map.mp hx
  rfl
@[simp] theorem in_ints {x : Int} {c : List Int} : cmpD .inn (.int x) (.lst (intsD c)) = .ok (decide (x ∈ c)) := by
  show (if ((D.int x).cl 0 && (intsD c).all (D.cl 0)) = true then R.ok (decide (D.int x ∈ intsD c)) else .bad) = _
  rw [in_all, show (D.int x).cl 0 = true from rfl]
  show R.ok (decide (D.int x ∈ intsD c)) = _
  congr 1
  exact decide_eq_decide.mpr intsD_mem
@[simp] theorem nin_ints {x : Int} {c : List Int} : cmpD .nin (.int x) (.lst (intsD c)) = .ok (!decide (x ∈ c)) := by
  have e : cmpD .nin (.int x) (.lst (intsD c)) = if ((D.int x).cl 0 && (intsD c).all (D.cl 0)) = true then R.ok (!decide (D.int x ∈ intsD c)) else .bad := rfl
  rw [e, in_all, show (D.int x).cl 0 = true from rfl]
  show R.ok (!decide (D.int x ∈ intsD c)) = _
  congr 2
  exact decide_eq_decide.mpr intsD_mem
def colsT (p : List (List Int)) : List D := p.map fun c => .tup (intsD c)
@[simp] theorem colsT_len (p : List (List Int)) : (colsT p).length = p.length := List.length_map ..
theorem colsT_nil : colsT [] = [] := rfl
theorem colsT_cons (c : List Int) (p : List (List Int)) : colsT (c :: p) = .tup (intsD c) :: colsT p := rfl
theorem colsT_snoc (ys : List (List Int)) (y : List Int) : colsT ys ++ [.tup (intsD y)] = colsT (ys ++ [y]) := by unfold colsT; rw [List.map_append]; rfl
theorem colsT_at {p : List (List Int)} {i : Nat} (h : i < p.length) : (colsT p)[i]? = some (.tup (intsD p[i])) := by unfold colsT; rw [List.getElem?_map, List.getElem?_eq_getElem h]; rfl
theorem colsT_drop (ys : List (List Int)) (n : Nat) : (colsT ys).drop n = colsT (ys.drop n) := by unfold colsT; rw [List.map_drop]
theorem colsT_take (ys : List (List Int)) (n : Nat) : (colsT ys).take n = colsT (ys.take n) := by unfold colsT; rw [List.map_take]
theorem colsT_set (ys : List (List Int)) (n : Nat) (y : List Int) : (colsT ys).set n (.tup (intsD y)) = colsT (ys.set n y) := by unfold colsT; rw [List.map_set]
theorem clb_colsT (p : List (List Int)) : clb (.lst (colsT p)) = true := by
  show (colsT p).all (D.cl 4) = true
  rw [List.all_eq_true]
  intro x hx
  obtain ⟨c, _, rfl⟩ := List.mem_map.mp hx
  show (intsD c).all (D.cl 3) = true
  rw [List.all_eq_true]
  intro y hy
  obtain ⟨i, _, rfl⟩ := List.mem_map.mp hy
  rfl
theorem eq_colsT (p : List (List Int)) : cmpD .eq (.lst (colsT p)) (.lst (colsT p)) = .ok true := by
  rw [eq_lst (clb_colsT p) (clb_colsT p), decide_eq_true rfl]
/-- a voice's note -/
def nt (c : List Int) (v : Nat) : Int := c.getD v 0
theorem nt_eq {c : List Int} {v : Nat} (h : v < c.length) : nt c v = c[v] := by unfold nt; rw [List.getD_eq_getElem?_getD, List.getElem?_eq_getElem h]; rfl
theorem sub_nt {c : List Int} {v : Nat} (h : v < c.length) : subD (.tup (intsD c)) (.int (v : Int)) = .ok (.int (nt c v)) := by rw [sub_tup (intsD_at h), nt_eq h]
theorem sub_ntl {c : List Int} {v : Nat} (h : v < c.length) : subD (.lst (intsD c)) (.int (v : Int)) = .ok (.int (nt c v)) := by rw [sub_lst (intsD_at h), nt_eq h]
/-- a column or none -/
def bD : Option (List Int) → D
  | none => .non
  | some c => .tup (intsD c)
@[simp] theorem bD_none : bD none = .non := via rfl
@[simp] theorem bD_some {c : List Int} : bD (some c) = .tup (intsD c) := via rfl
inductive Rul where
  | span (a b : Nat) (s : List Int) | clock (a b : Nat) (m : Int) (s : List Int) | move (v : Nat) (s : List Int) | alike (a b : Nat) (s : List Int)
  | back (v : Nat) (d : Int) | held (v : Nat) (m : Int) | times (v : Nat) (x lo hi : Int) | begin (v : Nat) (s : List Int) | close (v : Nat) (s : List Int)
  | every (m a : Int) (r : Rul)
def wSpan : Tx := [115, 112, 97, 110]
def wClock : Tx := [99, 108, 111, 99, 107]
def wMove : Tx := [109, 111, 118, 101]
def wAlike : Tx := [97, 108, 105, 107, 101]
def wBack : Tx := [98, 97, 99, 107]
def wHeld : Tx := [104, 101, 108, 100]
def wTimes : Tx := [116, 105, 109, 101, 115]
def wBegin : Tx := [98, 101, 103, 105, 110]
def wClose : Tx := [99, 108, 111, 115, 101]
def wEvery : Tx := [101, 118, 101, 114, 121]
def Rul.kind : Rul → Tx
  | .span .. => wSpan | .clock .. => wClock | .move .. => wMove | .alike .. => wAlike | .back .. => wBack | .held .. => wHeld | .times .. => wTimes | .begin .. => wBegin | .close .. => wClose | .every .. => wEvery
/-- the numbers behind the kind -/
def Rul.nums : Rul → List Int
  | .span a b s => ((a : Int) + 1) :: ((b : Int) + 1) :: s
  | .clock a b m s => ((a : Int) + 1) :: ((b : Int) + 1) :: m :: s
  | .move v s => ((v : Int) + 1) :: s
  | .alike a b s => ((a : Int) + 1) :: ((b : Int) + 1) :: s
  | .back v d => [(v : Int) + 1, d]
  | .held v m => [(v : Int) + 1, m]
  | .times v x lo hi => [(v : Int) + 1, x, lo, hi]
  | .begin v s => ((v : Int) + 1) :: s
  | .close v s => ((v : Int) + 1) :: s
  | .every m a _ => [m, a]
def Rul.words : Rul → List Tx
  | .every m a r => wEvery :: itx m :: itx a :: r.words
  | r => r.kind :: r.nums.map itx
def Rul.text (r : Rul) : Tx := TL.joinL [32] r.words
def Rul.cls : Rul → String
  | .span .. => "Span" | .clock .. => "Clock" | .move .. => "Move" | .alike .. => "Alike" | .back .. => "Back" | .held .. => "Held" | .times .. => "Times" | .begin .. => "Begin" | .close .. => "Close" | .every .. => "Every"
def Rul.flds : Rul → List String
  | .span .. => ["told", "one", "other", "some"] | .clock .. => ["told", "one", "other", "beat", "some"] | .move .. => ["told", "voice", "some"] | .alike .. => ["told", "one", "other", "some"]
  | .back .. => ["told", "voice", "far"] | .held .. => ["told", "voice", "most"] | .times .. => ["told", "voice", "note", "low", "high"] | .begin .. => ["told", "voice", "some"] | .close .. => ["told", "voice", "some"]
  | .every .. => ["told", "beat", "at", "rule"]
def Rul.vals : Rul → List D
  | .span a b s => [.int a, .int b, .lst (intsD s)]
  | .clock a b m s => [.int a, .int b, .int m, .lst (intsD s)]
  | .move v s => [.int v, .lst (intsD s)]
  | .alike a b s => [.int a, .int b, .lst (intsD s)]
  | .back v d => [.int v, .int d]
  | .held v m => [.int v, .int m]
  | .times v x lo hi => [.int v, .int x, .int lo, .int hi]
  | .begin v s => [.int v, .lst (intsD s)]
  | .close v s => [.int v, .lst (intsD s)]
  | .every m a r => [.int m, .int a, .ins r.cls r.flds (.str r.text :: r.vals)]
def Rul.d (r : Rul) : D := .ins r.cls r.flds (.str r.text :: r.vals)
def Rul.size : Rul → Int
  | .back .. => 3 | .held _ m => m | .times _ _ _ hi => hi + 1 | .every m _ _ => m | _ => 1
def Rul.after : Rul → Int → Option (List Int) → List Int → Option Int
  | .span a b s, m, _, c => if nt c b - nt c a ∈ s then some m else none
  | .clock a b k s, m, _, c => if (nt c b - nt c a) % k ∈ s then some m else none
  | .begin v s, m, none, c => if nt c v ∈ s then some m else none
  | .begin _ _, m, some _, _ => some m
  | .close _ _, m, _, _ => some m
  | .back _ _, _, none, _ => some 0
  | .back v d, m, some b, c =>
    if m = 1 ∧ 0 ≤ nt c v - nt b v ∨ m = 2 ∧ nt c v - nt b v ≤ 0 then none
    else if d < nt c v - nt b v then some 1 else if nt c v - nt b v < 0 - d then some 2 else some 0
  | .held _ _, _, none, _ => some 0
  | .held v k, m, some b, c => if nt c v = nt b v then (if m + 1 = k then none else some (m + 1)) else some 0
  | .times v x _ hi, m, _, c => if nt c v = x then (if m = hi then none else some (m + 1)) else some m
  | .every k a r, m, b, c => if m = a ∧ r.after 0 b c = none then none else some ((m + 1) % k)
  | .move _ _, m, none, _ => some m
  | .move v s, m, some b, c => if nt c v - nt b v ∈ s then some m else none
  | .alike _ _ _, m, none, _ => some m
  | .alike a b s, m, some p, c => if nt c a = nt p a then some m else if nt c b - nt c a = nt p b - nt p a ∧ nt c b - nt c a ∈ s then none else some m
def Rul.closes : Rul → Int → Option (List Int) → Bool
  | .close _ _, _, none => true
  | .close v s, _, some c => decide (nt c v ∈ s)
  | .back _ _, m, _ => decide (m = 0)
  | .times _ _ lo _, m, _ => decide (lo ≤ m)
  | _, _, _ => true
def SmI (i : Int) : Prop := i.natAbs < 10 ^ 40
structure OkS (s : List Int) : Prop where
  lo : 1 ≤ s.length
  hi : s.length ≤ 12
  sm : ∀ i ∈ s, SmI i
/-- a rule that may stand in a score of so many voices -/
def Rul.Ok (n : Nat) : Rul → Prop
  | .span a b s => a < n ∧ b < n ∧ OkS s
  | .clock a b m s => a < n ∧ b < n ∧ (1 ≤ m ∧ SmI m) ∧ OkS s
  | .move v s => v < n ∧ OkS s
  | .alike a b s => a < n ∧ b < n ∧ OkS s
  | .back v d => v < n ∧ 0 ≤ d ∧ SmI d
  | .held v m => v < n ∧ 1 ≤ m ∧ SmI m
  | .times v x lo hi => v < n ∧ SmI x ∧ (0 ≤ lo ∧ SmI lo) ∧ 0 ≤ hi ∧ SmI hi
  | .begin v s => v < n ∧ OkS s
  | .close v s => v < n ∧ OkS s
  | .every m a (.span c d s) => (1 ≤ m ∧ SmI m) ∧ (0 ≤ a ∧ a < m) ∧ c < n ∧ d < n ∧ OkS s
  | .every m a (.clock c d k s) => (1 ≤ m ∧ SmI m) ∧ (0 ≤ a ∧ a < m) ∧ c < n ∧ d < n ∧ (1 ≤ k ∧ SmI k) ∧ OkS s
  | .every .. => False
/-- where a rule is broken, going along from a place on -/
def Rul.brk (r : Rul) : Nat → Int → Option (List Int) → List (List Int) → Option Int
  | p, m, b, [] => if r.closes m b then none else some (p : Int)
  | p, m, b, c :: l => match r.after m b c with
    | none => some (p : Int)
    | some m' => r.brk (p + 1) m' (some c) l
def Rul.broken (r : Rul) (l : List (List Int)) : Option Int := r.brk 0 0 none l
def Rul.flat : Rul → Bool
  | .every .. => false
  | _ => true
theorem Rul.words_eq {r : Rul} (h : r.flat = true) : r.words = r.kind :: r.nums.map itx := by cases r <;> first | rfl | cases h
theorem Rul.kind_pl (r : Rul) : Pl 5 r.kind ∧ 32 ∉ r.kind := by
  cases r <;> exact ⟨⟨rfl, Nat.le_of_ble_eq_true rfl⟩, by simp [Rul.kind, wSpan, wClock, wMove, wAlike, wBack, wHeld, wTimes, wBegin, wClose, wEvery]⟩
theorem smi_nat {a n : Nat} (h : a < n) (hn : n ≤ 1000) : SmI ((a : Int) + 1) := by
  have : (1001 : Nat) ≤ 10 ^ 40 := by decide
  unfold SmI
  omega
theorem Rul.nums_ok {r : Rul} {n : Nat} (hn : n ≤ 1000) (h : r.Ok n) (hf : r.flat = true) : (∀ i ∈ r.nums, SmI i) ∧ r.nums.length ≤ 15 ∧ 1 < r.nums.length := by
  have hs : ∀ {s : List Int}, OkS s → s.length ≤ 12 ∧ 1 ≤ s.length ∧ ∀ i ∈ s, SmI i := fun h => ⟨h.hi, h.lo, h.sm⟩
  cases r with
  | every m a r => cases hf
  | span a b s =>
    obtain ⟨h1, h2, h3⟩ := h
    have h3 := hs h3
    exact ⟨fun i hi => by
      rcases List.mem_cons.mp hi with rfl | hi
      · exact smi_nat h1 hn
      rcases List.mem_cons.mp hi with rfl | hi
      · exact smi_nat h2 hn
      exact h3.2.2 i hi, by simp [Rul.nums]; omega, by simp [Rul.nums]⟩
  | alike a b s =>
    obtain ⟨h1, h2, h3⟩ := h
    have h3 := hs h3
    exact ⟨fun i hi => by
      rcases List.mem_cons.mp hi with rfl | hi
      · exact smi_nat h1 hn
      rcases List.mem_cons.mp hi with rfl | hi
      · exact smi_nat h2 hn
      exact h3.2.2 i hi, by simp [Rul.nums]; omega, by simp [Rul.nums]⟩
  | clock a b m s =>
    obtain ⟨h1, h2, h4, h3⟩ := h
    have h3 := hs h3
    exact ⟨fun i hi => by
      rcases List.mem_cons.mp hi with rfl | hi
      · exact smi_nat h1 hn
      rcases List.mem_cons.mp hi with rfl | hi
      · exact smi_nat h2 hn
      rcases List.mem_cons.mp hi with rfl | hi
      · exact h4.2
      exact h3.2.2 i hi, by simp [Rul.nums]; omega, by simp [Rul.nums]⟩
  | move v s =>
    obtain ⟨h1, h3⟩ := h
    have h3 := hs h3
    exact ⟨fun i hi => by
      rcases List.mem_cons.mp hi with rfl | hi
      · exact smi_nat h1 hn
      exact h3.2.2 i hi, by simp [Rul.nums]; omega, by simp [Rul.nums]; omega⟩
  | begin v s =>
    obtain ⟨h1, h3⟩ := h
    have h3 := hs h3
    exact ⟨fun i hi => by
      rcases List.mem_cons.mp hi with rfl | hi
      · exact smi_nat h1 hn
      exact h3.2.2 i hi, by simp [Rul.nums]; omega, by simp [Rul.nums]; omega⟩
  | close v s =>
    obtain ⟨h1, h3⟩ := h
    have h3 := hs h3
    exact ⟨fun i hi => by
      rcases List.mem_cons.mp hi with rfl | hi
      · exact smi_nat h1 hn
      exact h3.2.2 i hi, by simp [Rul.nums]; omega, by simp [Rul.nums]; omega⟩
  | back v d =>
    obtain ⟨h1, h2, h3⟩ := h
    refine ⟨?_, by simp [Rul.nums], by simp [Rul.nums]⟩
    simp only [Rul.nums, List.mem_cons, List.not_mem_nil, or_false]
    rintro i (rfl | rfl)
    · exact smi_nat h1 hn
    · exact h3
  | held v d =>
    obtain ⟨h1, h2, h3⟩ := h
    refine ⟨?_, by simp [Rul.nums], by simp [Rul.nums]⟩
    simp only [Rul.nums, List.mem_cons, List.not_mem_nil, or_false]
    rintro i (rfl | rfl)
    · exact smi_nat h1 hn
    · exact h3
  | times v x lo hi =>
    obtain ⟨h1, h2, h3, h4, h5⟩ := h
    refine ⟨?_, by simp [Rul.nums], by simp [Rul.nums]⟩
    simp only [Rul.nums, List.mem_cons, List.not_mem_nil, or_false]
    rintro i (rfl | rfl | rfl | rfl)
    · exact smi_nat h1 hn
    · exact h2
    · exact h3.2
    · exact h5
/-- a row's words -/
def wordOk (w : Tx) : Prop := Pl 41 w ∧ 32 ∉ w ∧ w.length ≤ 41
theorem itx_word {i : Int} (h : SmI i) : wordOk (itx i) := by
  have p := itx_pl (k := 40) (by decide) h
  exact ⟨p, fun hc => by have := itx_sign hc; omega, p.2⟩
theorem kind_word (r : Rul) : wordOk r.kind := ⟨r.kind_pl.1.mono (by decide), r.kind_pl.2, Nat.le_trans r.kind_pl.1.2 (by decide)⟩
theorem flat_words {r : Rul} {n : Nat} (hn : n ≤ 1000) (h : r.Ok n) (hf : r.flat = true) : (∀ w ∈ r.words, wordOk w) ∧ r.words.length ≤ 16 := by
  obtain ⟨h1, h2, _⟩ := Rul.nums_ok hn h hf
  rw [Rul.words_eq hf]
  refine ⟨fun w hw => ?_, by rw [List.length_cons, List.length_map]; omega⟩
  rcases List.mem_cons.mp hw with rfl | hw
  · exact kind_word r
  · obtain ⟨i, hi, rfl⟩ := List.mem_map.mp hw
    exact itx_word (h1 i hi)
theorem split_words {ws : List Tx} (h : ∀ w ∈ ws, wordOk w) (hl : ws.length ≤ 1000) (hne : ws ≠ []) : m1D .split (TL.joinL [32] ws) (.str [32]) = .ok (.fr (strsD ws)) ∧ (TL.joinL [32] ws).length ≤ 42000 := by
  have z := joinL_len (ys := ws) (s := 32) (b := 41) fun y hy => (h y hy).2.2
  have z2 : (TL.joinL [32] ws).length ≤ 42000 := by omega
  exact ⟨m1_split (by decide) hne (fun y hy => (h y hy).2.1) (by omega), z2⟩
theorem join_words {ws : List Tx} (h : ∀ w ∈ ws, wordOk w) (hl : ws.length ≤ 1000) : m1D .join [32] (.lst (strsD ws)) = .ok (.d (.str (TL.joinL [32] ws))) :=
  m1_join (fun y hy => (h y hy).2.2) rfl (by omega)
theorem slc_strs_from (ws : List Tx) (n : Nat) : slcD (.lst (strsD ws)) (some (n : Int)) none = .ok (.fr (strsD (ws.drop n))) := by rw [slc_lst_from, strsD_drop]
theorem slc_ints_from (ws : List Int) (n : Nat) : slcD (.lst (intsD ws)) (some (n : Int)) none = .ok (.fr (intsD (ws.drop n))) := by rw [slc_lst_from, intsD_drop]
theorem slc_cols_from (ws : List (List Int)) (n : Nat) : slcD (.lst (colsT ws)) (some (n : Int)) none = .ok (.fr (colsT (ws.drop n))) := by rw [slc_lst_from, colsT_drop]
theorem slc_cols_to (ws : List (List Int)) (n : Nat) : slcD (.lst (colsT ws)) none (some (n : Int)) = .ok (.fr (colsT (ws.take n))) := by rw [slc_lst_to, colsT_take]
theorem lookup_if {β : Type} (a k : String) (b : β) (l : List (String × β)) : List.lookup a ((k, b) :: l) = if a = k then some b else List.lookup a l := by
  rw [List.lookup_cons]
  by_cases h : a = k
  · subst h; rw [beq_self_eq_true, if_pos rfl]
  · have hb : (a == k) = false := by simpa using h
    rw [hb, if_neg h]
theorem d_span {a b : Nat} {s : List Int} : (Rul.span a b s).d = .ins "Span" ["told", "one", "other", "some"] [.str (Rul.span a b s).text, .int a, .int b, .lst (intsD s)] := rfl
theorem d_clock {a b : Nat} {m : Int} {s : List Int} : (Rul.clock a b m s).d = .ins "Clock" ["told", "one", "other", "beat", "some"] [.str (Rul.clock a b m s).text, .int a, .int b, .int m, .lst (intsD s)] := rfl
theorem d_move {v : Nat} {s : List Int} : (Rul.move v s).d = .ins "Move" ["told", "voice", "some"] [.str (Rul.move v s).text, .int v, .lst (intsD s)] := rfl
theorem d_alike {a b : Nat} {s : List Int} : (Rul.alike a b s).d = .ins "Alike" ["told", "one", "other", "some"] [.str (Rul.alike a b s).text, .int a, .int b, .lst (intsD s)] := rfl
theorem d_back {v : Nat} {y : Int} : (Rul.back v y).d = .ins "Back" ["told", "voice", "far"] [.str (Rul.back v y).text, .int v, .int y] := rfl
theorem d_held {v : Nat} {y : Int} : (Rul.held v y).d = .ins "Held" ["told", "voice", "most"] [.str (Rul.held v y).text, .int v, .int y] := rfl
theorem d_times {v : Nat} {x lo hi : Int} : (Rul.times v x lo hi).d = .ins "Times" ["told", "voice", "note", "low", "high"] [.str (Rul.times v x lo hi).text, .int v, .int x, .int lo, .int hi] := rfl
theorem d_begin {v : Nat} {s : List Int} : (Rul.begin v s).d = .ins "Begin" ["told", "voice", "some"] [.str (Rul.begin v s).text, .int v, .lst (intsD s)] := rfl
theorem d_close {v : Nat} {s : List Int} : (Rul.close v s).d = .ins "Close" ["told", "voice", "some"] [.str (Rul.close v s).text, .int v, .lst (intsD s)] := rfl
theorem d_every {m a : Int} {r : Rul} : (Rul.every m a r).d = .ins "Every" ["told", "beat", "at", "rule"] [.str (Rul.every m a r).text, .int m, .int a, r.d] := rfl
/-- a field's value -/
theorem fld_of {cs ns : List String} {c n : String} {xs : List D} {y : D} (h : c ∈ cs) (e : (ns.zip xs).lookup n = some y) : fldD cs n (.ins c ns xs) = .ok y := by
  show (if c ∈ cs then optR ((ns.zip xs).lookup n) .ok else .bad) = _
  rw [if_pos h, e]; rfl
/-- classes of rules -/
abbrev CL10 : List String := ["Span", "Clock", "Begin", "Close", "Back", "Held", "Times", "Every", "Move", "Alike"]
theorem cls_of (r : Rul) {m : String} (h : m ∈ ["start", "after", "closes", "size", "shown"]) : clsOf CL10 m r.d = .ok r.cls := by
  have hm : m ∉ r.flds := by
    simp only [List.mem_cons, List.not_mem_nil, or_false] at h
    rcases h with rfl | rfl | rfl | rfl | rfl <;> cases r <;> simp [Rul.flds]
  have hc : r.cls ∈ CL10 := by cases r <;> simp [Rul.cls]
  show (if r.cls ∈ CL10 ∧ m ∉ r.flds then R.ok r.cls else .bad) = _
  rw [if_pos ⟨hc, hm⟩]
theorem cls_of2 {r : Rul} {m : String} (h : m ∈ ["start", "after", "closes", "size", "shown"]) (hc : r.cls ∈ ["Span", "Clock"]) : clsOf ["Span", "Clock"] m r.d = .ok r.cls := by
  have hm : m ∉ r.flds := by
    simp only [List.mem_cons, List.not_mem_nil, or_false] at h
    rcases h with rfl | rfl | rfl | rfl | rfl <;> cases r <;> simp [Rul.flds]
  show (if r.cls ∈ ["Span", "Clock"] ∧ m ∉ r.flds then R.ok r.cls else .bad) = _
  rw [if_pos ⟨hc, hm⟩]
def aPick : Df := ⟨2, 3, [], (.cons (.for_ (.one 2) (.seq (.slc (.var 0) (.var 1) (.bin .add (.var 1) (.cst (.int 1))))) (.cons (.ret (.var 2)) .nil)) (.cons (.ret (.cst (.int 0))) .nil))⟩
def pickV (ns : List Int) (p : Nat) : Int := ns.getD p 0
theorem pick_bt {ns : List Int} (h : Sc ns) (p : Nat) : Bt 1048576 (pickV ns p) := by
  unfold pickV
  rw [List.getD_eq_getElem?_getD]
  cases e : ns[p]? with
  | none => exact Bt.zero
  | some z => exact h.2 z (List.mem_of_getElem? e)
theorem pick_eq {defs : List (String × Df)} (hd : defs.lookup "_law_pick" = some aPick) (k : Nat) (ns : List Int) (p : Nat) : mirN defs (k + 1) "_law_pick" [.scr ns, .int (p : Int)] = .ok (.d (.int (pickV ns p))) := by
  refine (mirN_run hd _).trans ((run_0 rfl).trans ?_)
  simp [aPick, slcD, cut_one, pickV, List.getD_eq_getElem?_getD]
  cases ns[p]? with
  | none => simp
  | some z => simp [forL_cons]
def aIs : Df := ⟨2, 2, [], (.cons (.ifs (.cmp .is (.var 1) (.cst .non)) (.cons (.ret (.cmp .is (.var 0) (.cst .non))) .nil) .nil) (.cons (.ret (.and (.isa (.var 0) "int") (.and (.nt (.isa (.var 0) "bool")) (.cmp .eq (.var 0) (.var 1))))) .nil))⟩
theorem is_eq {defs : List (String × Df)} (hd : defs.lookup "_law_is" = some aIs) (k : Nat) (a b : Option Int) : mirN defs (k + 1) "_law_is" [oD a, oD b] = .ok (.d (.bl (decide (a = b)))) := by
  refine (mirN_run hd _).trans ((run_0 rfl).trans ?_)
  cases a with
  | none => cases b <;> simp [aIs]
  | some x => cases b <;> simp [aIs]
theorem is_same {defs : List (String × Df)} (hd : defs.lookup "_law_is" = some aIs) (k : Nat) {a b : Option Int} (h : a = b) : mirN defs (k + 1) "_law_is" [oD a, oD b] = .ok (.d (.bl true)) := by rw [is_eq hd k, decide_eq_true h]
/-- a list of numbers made one by one -/
theorem comp_ints {Γ : Fns} {S S' : Nat → Sg} {e : Ex} {n : Nat} {tg : Tg} {T : Sg} (f : Nat → D) (g : Nat → Int) (h : ∀ i, i < n → ∃ S1, tg.set (f i) T = .ok S1 ∧ elt Γ e S1 = .ok (.int (g i))) : compL tg T (evT Γ (.cst (.bl true))) (elt Γ e) ((List.range n).map f) [] = .ok (intsD ((List.range n).map g)) := by
  rw [compL_map f (fun i => .int (g i)) (List.range n) [] fun i hi => by
    obtain ⟨S1, h1, h2⟩ := h i (List.mem_range.mp hi)
    exact ⟨S1, h1, by simp, h2⟩]
  unfold intsD
  rw [List.map_map]
  rfl
end Fv
end
section
set_option maxHeartbeats 1000000
namespace Fv
open PySem
def aStir : Df := ⟨2, 5, [], (.cons (.setT [2, 3] (.bi .divmod (.cons (.var 0) (.cons (.cst (.int 46337)) .nil)))) (.cons (.set 4 (.bin .mod (.bin .add (.bin .add (.bin .add (.bin .mul (.var 3) (.cst (.int 52361))) (.bin .mul (.var 2) (.cst (.int 30011)))) (.bin .mul (.bin .add (.bin .mul (.cst (.int 2)) (.var 1)) (.cst (.int 1))) (.cst (.int 7919)))) (.cst (.int 97))) (.cst (.int 1600000009)))) (.cons (.ret (.bin .mod (.bin .add (.bin .add (.bin .fdiv (.bin .mul (.var 4) (.var 4)) (.cst (.int 31))) (.bin .mul (.var 4) (.cst (.int 1013)))) (.bin .mul (.bin .mul (.var 1) (.var 1)) (.var 1))) (.cst (.int 1900000043)))) .nil)))⟩
def qBases : Ex := .bin .add (.bin .sub (.cst (.int 60)) (.bin .mul (.cst (.int 7)) (.var 3))) (.bin .mul (.var 2) (.bin .sub (.cst (.int 1)) (.var 3)))
def aBases : Df := ⟨2, 4, [], (.cons (.set 0 (.bin .mod (.var 0) (.bin .mul (.cst (.int 3)) (.bin .pow (.cst (.int 10)) (.cst (.int 30)))))) (.cons (.set 2 (.bin .mul (.bin .sub (.bin .mod (.var 0) (.cst (.int 3))) (.cst (.int 1))) (.bin .fdiv (.var 0) (.cst (.int 3))))) (.cons (.ret (.lc [("_law_v", 3)] (.one 3) (.rng (.var 1)) (.cst (.bl true)) qBases)) .nil)))⟩
def bDigits : Sms := (.cons (.ifs (.cmp .gt (.var 3) (.cst (.int 0))) (.cons (.app 4 (.bin .mod (.var 3) (.bin .pow (.cst (.int 10)) (.cst (.int 6))))) (.cons (.set 3 (.bin .fdiv (.var 3) (.bin .pow (.cst (.int 10)) (.cst (.int 6))))) .nil)) (.cons (.app 4 (.call "_law_stir" (.cons (.bin .add (.call "_law_stir" (.cons (.var 0) (.cons (.var 5) .nil))) (.var 0)) (.cons (.var 5) .nil)))) .nil)) .nil)
def aDigits : Df := ⟨2, 6, [], (.cons (.set 2 (.bin .mod (.var 0) (.cst (.int 2)))) (.cons (.set 0 (.bin .mod (.bin .fdiv (.var 0) (.cst (.int 2))) (.bin .mul (.bin .pow (.cst (.int 10)) (.cst (.int 60))) (.bin .pow (.cst (.int 10)) (.cst (.int 30)))))) (.cons (.set 3 (.bin .mul (.var 0) (.bin .sub (.cst (.int 1)) (.var 2)))) (.cons (.set 4 (.lst .nil)) (.cons (.for_ (.one 5) (.rng (.var 1)) bDigits) (.cons (.ret (.var 4)) .nil))))))⟩
def bColumn : Sms := (.cons (.set 7 (.bin .mod (.call "_law_stir" (.cons (.bin .add (.call "_law_stir" (.cons (.var 0) (.cons (.var 6) .nil))) (.var 0)) (.cons (.var 6) .nil))) (.var 3))) (.cons (.ifs (.cmp .gt (.var 4) (.cst (.int 0))) (.cons (.set 7 (.bin .mod (.var 4) (.var 3))) .nil) .nil) (.cons (.app 5 (.bin .add (.sub (.var 1) (.var 6)) (.bin .mul (.var 2) (.var 7)))) (.cons (.set 4 (.bin .fdiv (.var 4) (.var 3))) .nil))))
def aColumn : Df := ⟨4, 8, [], (.cons (.set 4 (.bin .mul (.bin .fdiv (.var 0) (.cst (.int 2))) (.bin .sub (.cst (.int 1)) (.bin .mod (.var 0) (.cst (.int 2)))))) (.cons (.set 5 (.lst .nil)) (.cons (.for_ (.one 6) (.rng (.bi .len (.cons (.var 1) .nil))) bColumn) (.cons (.ret (.bi .tuple (.cons (.var 5) .nil))) .nil))))⟩
variable {defs : List (String × Df)}
theorem stir_eq (hd : defs.lookup "_law_stir" = some aStir) (k : Nat) (n i : Int) (hn : Bt 400 n) (hi : 0 ≤ i ∧ i < 1000) : ∃ r : Int, mirN defs (k + 1) "_law_stir" [.int n, .int i] = .ok (.d (.int r)) ∧ 0 ≤ r ∧ r < 1900000043 := by
  have e : mirN defs (k + 1) "_law_stir" [.int n, .int i] = _ := (mirN_run hd _).trans (run_0 rfl)
  rw [e]
  have m1 := mul_bt (i := n / 46337) (j := 30011) 400 15 hn.div (by decide) (by decide)
  generalize n / 46337 = u at m1
  have l1 : 0 ≤ n % 46337 ∧ n % 46337 < 46337 := ⟨Int.emod_nonneg _ (by decide), Int.emod_lt_of_pos _ (by decide)⟩
  obtain ⟨l, hl⟩ : ∃ l, n % 46337 = l := ⟨_, rfl⟩
  rw [hl] at l1
  obtain ⟨d, hdv⟩ : ∃ d, n / 46337 = d := ⟨_, rfl⟩
  have m1 := mul_bt (i := n / 46337) (j := 30011) 400 15 hn.div (by decide) (by decide)
  rw [hdv] at m1
  obtain ⟨f, hf, hf1⟩ : ∃ f : Int, (l * 52361 + d * 30011 + (2 * i + 1) * 7919 + 97) % 1600000009 = f ∧ 0 ≤ f ∧ f < 1600000009 := ⟨_, rfl, Int.emod_nonneg _ (by decide), Int.emod_lt_of_pos _ (by decide)⟩
  have m2 := mul_sm (i := l) (j := 52361) (by omega) (by omega)
  have m3 := mul_sm (i := 2) (j := i) (by omega) (by omega)
  have m4 := mul_sm (i := 2 * i + 1) (j := 7919) (by omega) (by omega)
  have m5 := mul_sm (i := f) (j := f) (by omega) (by omega)
  have m6 := mul_sm (i := f) (j := 1013) (by omega) (by omega)
  have m7 := mul_sm (i := i) (j := i) (by omega) (by omega)
  have ii : 0 ≤ i * i ∧ i * i < 1000000 := ⟨Int.mul_nonneg hi.1 hi.1, by
    have h1 : i * i ≤ 999 * i := Int.mul_le_mul_of_nonneg_right (by omega) hi.1
    omega⟩
  obtain ⟨s, hs⟩ : ∃ s, i * i = s := ⟨_, rfl⟩
  rw [hs] at ii m7
  have m8 := mul_sm (i := s) (j := i) (by omega) (by omega)
  refine ⟨(f * f / 31 + f * 1013 + s * i) % 1900000043, ?_, Int.emod_nonneg _ (by decide), Int.emod_lt_of_pos _ (by decide)⟩
  simp [aStir, hl, hdv, m1, m2, m3, m4, hf, m5, m6, m7, m8]
/-- numbers of columns drawn -/
theorem bases_eq (hd : defs.lookup "_law_bases" = some aBases) (k : Nat) (c : Int) (v : Nat) (hv : v ≤ 4) : ∃ l : List Int, mirN defs (k + 1) "_law_bases" [.int c, .int (v : Int)] = .ok (.fr (intsD l)) ∧ l.length = v ∧ ∀ x ∈ l, -4000000000000000000000000000000 ≤ x ∧ x ≤ 4000000000000000000000000000000 := by
  have e : mirN defs (k + 1) "_law_bases" [.int c, .int (v : Int)] = _ := (mirN_run hd _).trans (run_0 rfl)
  rw [e]
  obtain ⟨q, hq, hq1⟩ : ∃ q : Int, c % 3000000000000000000000000000000 = q ∧ 0 ≤ q ∧ q < 3000000000000000000000000000000 := ⟨_, rfl, Int.emod_nonneg _ (by decide), Int.emod_lt_of_pos _ (by decide)⟩
  have m1 := mul_sm (i := q % 3 - 1) (j := q / 3) (by omega) (by omega)
  obtain ⟨f, hf, hf1⟩ : ∃ f : Int, (q % 3 - 1) * (q / 3) = f ∧ -1000000000000000000000000000000 ≤ f ∧ f ≤ 1000000000000000000000000000000 := by
    refine ⟨_, rfl, ?_⟩
    have h3 : q % 3 = 0 ∨ q % 3 = 1 ∨ q % 3 = 2 := by omega
    rcases h3 with h | h | h <;> rw [h] <;> omega
  rw [hf] at m1
  have rg : rngD 0 (v : Int) = _ := rng_n (by omega)
  have v6 : v ≤ 16777216 := by omega
  have bd : ∀ i : Nat, i < v → -4000000000000000000000000000000 ≤ 60 - 7 * (i : Int) + f * (1 - (i : Int)) ∧ 60 - 7 * (i : Int) + f * (1 - (i : Int)) ≤ 4000000000000000000000000000000 := fun i hi => by
    have h4 : i = 0 ∨ i = 1 ∨ i = 2 ∨ i = 3 := by omega
    rcases h4 with rfl | rfl | rfl | rfl <;> simp <;> omega
  have c1 : compL (Tg.one 3) [.fz (.int q), .fz (.int v), .fz (.int f), .no] (evT (mirN defs k) (.cst (.bl true))) (elt (mirN defs k) qBases) ((List.range v).map fun i => .int (i : Nat)) [] = .ok (intsD ((List.range v).map fun i : Nat => 60 - 7 * (i : Int) + f * (1 - (i : Int)))) :=
    comp_ints (S := fun _ => []) (S' := fun _ => []) _ _ fun i hi => ⟨_, rfl, by
      have a1 := mul_sm (i := 7) (j := (i : Int)) (by omega) (by omega)
      have a2 := mul_sm (i := f) (j := 1 - (i : Int)) (by omega) (by omega)
      simp only [List.set_cons_succ, List.set_cons_zero]
      generalize (i : Int) = z at a1 a2 ⊢
      simp [qBases, a1, a2]⟩
  refine ⟨(List.range v).map fun i : Nat => 60 - 7 * (i : Int) + f * (1 - (i : Int)), ?_, by simp, fun x hx => by
    obtain ⟨i, hi, rfl⟩ := List.mem_map.mp hx
    exact bd i (List.mem_range.mp hi)⟩
  generalize (List.range v).map (fun i : Nat => 60 - 7 * (i : Int) + f * (1 - (i : Int))) = L at c1
  simp [aBases, hq, m1, rg, v6, c1, wipeS]
/-- a list of small numbers not below 0 -/
structure Dig (l : List Int) (n : Nat) : Prop where
  len : l.length = n
  ok : ∀ x ∈ l, 0 ≤ x ∧ x < 1900000043
theorem Dig.snoc {l : List Int} {n : Nat} (h : Dig l n) {x : Int} (hx : 0 ≤ x ∧ x < 1900000043) : Dig (l ++ [x]) (n + 1) := ⟨by rw [List.length_append, h.len]; rfl, fun y hy => by
  rcases List.mem_append.mp hy with hy | hy
  · exact h.ok y hy
  · rw [List.mem_singleton.mp hy]; exact hx⟩
theorem digits_eq (hd : defs.lookup "_law_digits" = some aDigits) (hs : defs.lookup "_law_stir" = some aStir) (k : Nat) (c : Int) (n : Nat) (hc : Bt 1048576 c) (hn : n ≤ 100) : ∃ l : List Int, mirN defs (k + 2) "_law_digits" [.int c, .int (n : Int)] = .ok (.fr (intsD l)) ∧ Dig l n := by
  have e : mirN defs (k + 2) "_law_digits" [.int c, .int (n : Int)] = _ := (mirN_run hd _).trans (run_0 rfl)
  rw [e]
  have rg : rngD 0 (n : Int) = _ := rng_n (by omega)
  have m0 : binD .mul (.int 1000000000000000000000000000000000000000000000000000000000000) (.int 1000000000000000000000000000000) = .ok (.d (.int 1000000000000000000000000000000000000000000000000000000000000000000000000000000000000000000)) := mul_int (mulOk_bt (m := 200) (n := 100) (by decide +kernel) (by decide +kernel) (by decide))
  obtain ⟨q, hq, hq1⟩ : ∃ q : Int, c / 2 % 1000000000000000000000000000000000000000000000000000000000000000000000000000000000000000000 = q ∧ 0 ≤ q ∧ q < 1000000000000000000000000000000000000000000000000000000000000000000000000000000000000000000 := ⟨_, rfl, Int.emod_nonneg _ (by decide), Int.emod_lt_of_pos _ (by decide)⟩
  have qb : Bt 300 q := Bt.of hq1.1 (Int.lt_trans hq1.2 (by decide +kernel))
  have z2 : c % 2 = 0 ∨ c % 2 = 1 := by omega
  have hb : Bt 2 (1 - c % 2) := by rcases z2 with z | z <;> rw [z] <;> decide
  have m1 := mul_bt 300 2 qb hb (by decide)
  obtain ⟨w, hw⟩ : ∃ w, q * (1 - c % 2) = w := ⟨_, rfl⟩
  rw [hw] at m1
  simp [aDigits, m0, hq, m1, rg]
  refine for_rule (R := fun o => ∃ l, (o.thn _).val = R.ok (Val.fr (intsD l)) ∧ Dig l n) (fun i S => ∃ (x : Int) (l : List Int) (y : Sl), S = [.fz (.int q), .fz (.int n), .fz (.int (c % 2)), .fz (.int x), .own (intsD l), y] ∧ Dig l i) ⟨w, [], _, rfl, rfl, fun _ h => nomatch h⟩ ?_ ?_
  · rintro i x S hx ⟨r, l, y, rfl, hl⟩
    obtain ⟨hi, rfl⟩ := rng_get hx
    refine ⟨_, rfl, ?_⟩
    have ll : (intsD l).length < 16777216 := by rw [intsD_len, hl.len]; omega
    by_cases g : 0 < r
    · have sn := intsD_snoc l (r % 1000000)
      generalize intsD l = L at ll sn ⊢
      simp [bDigits, g, ll, sn]
      exact ⟨_, _, ⟨rfl, rfl⟩, hl.snoc ⟨Int.emod_nonneg _ (by decide), Int.lt_trans (Int.emod_lt_of_pos _ (by decide)) (by decide)⟩⟩
    · obtain ⟨s1, e1, b1⟩ := stir_eq hs k q i (qb.mono (by decide)) ⟨by omega, by omega⟩
      obtain ⟨s2, e2, b2⟩ := stir_eq hs k (s1 + q) i ((Bt.add (m := 31) (n := 300) (Bt.of b1.1 (Int.lt_trans b1.2 (by decide))) qb).mono (by decide)) ⟨by omega, by omega⟩
      have sn := intsD_snoc l s2
      generalize intsD l = L at ll sn ⊢
      simp [bDigits, g, ll, e1, e2, sn]
      exact ⟨_, _, ⟨rfl, rfl⟩, hl.snoc b2⟩
  · rintro S ⟨r, l, y, rfl, hl⟩
    rw [List.length_map, List.length_range] at hl
    exact ⟨l, by simp, hl⟩
/-- a column of so many notes, none too great -/
structure Col (c : List Int) (v : Nat) : Prop where
  len : c.length = v
  ok : ∀ x ∈ c, -5000000000000000000000000000000 ≤ x ∧ x ≤ 5000000000000000000000000000000
theorem Col.nt {c : List Int} {v i : Nat} (h : Col c v) (hi : i < v) : -5000000000000000000000000000000 ≤ nt c i ∧ nt c i ≤ 5000000000000000000000000000000 := by
  rw [nt_eq (by rw [h.len]; exact hi)]
  exact h.ok _ (List.getElem_mem _)
theorem column_eq {nm : String} (hd : defs.lookup nm = some aColumn) (hs : defs.lookup "_law_stir" = some aStir) (k : Nat) (z : Int) (bs : List Int) (st w : Int) (hz : 0 ≤ z ∧ z < 100000000000) (hb : ∀ x ∈ bs, -4000000000000000000000000000000 ≤ x ∧ x ≤ 4000000000000000000000000000000) (hl : bs.length ≤ 4) (hst : 0 ≤ st ∧ st ≤ 1000000000039) (hw : 0 < w ∧ w ≤ 100) :
    ∃ c : List Int, mirN defs (k + 2) nm [.int z, .lst (intsD bs), .int st, .int w] = .ok (.d (.tup (intsD c))) ∧ Col c bs.length := by
  have e : mirN defs (k + 2) nm [.int z, .lst (intsD bs), .int st, .int w] = _ := (mirN_run hd _).trans (run_0 rfl)
  rw [e]
  have rg : rngD 0 (bs.length : Int) = _ := rng_n (by omega)
  have z2 : z % 2 = 0 ∨ z % 2 = 1 := by omega
  have m1 := mul_sm (i := z / 2) (j := 1 - z % 2) (by omega) (by omega)
  obtain ⟨r0, hr0, hr1⟩ : ∃ r0, z / 2 * (1 - z % 2) = r0 ∧ 0 ≤ r0 := ⟨_, rfl, Int.mul_nonneg (by omega) (by omega)⟩
  rw [hr0] at m1
  simp [aColumn, m1, rg]
  refine for_rule (R := fun o => ∃ l, (o.thn _).val = R.ok (Val.d (.tup (intsD l))) ∧ Col l bs.length) (fun i S => ∃ (x : Int) (l : List Int) (y y2 : Sl), S = [.fz (.int z), .fz (.lst (intsD bs)), .fz (.int st), .fz (.int w), .fz (.int x), .own (intsD l), y, y2] ∧ Col l i) ⟨r0, [], _, _, rfl, rfl, fun _ h => nomatch h⟩ ?_ ?_
  · rintro i x S hx ⟨r, l, y, y2, rfl, hcl⟩
    obtain ⟨hi, rfl⟩ := rng_get hx
    refine ⟨_, rfl, ?_⟩
    have ll : (intsD l).length < 16777216 := by rw [intsD_len, hcl.len]; omega
    have zb : Bt 40 z := Bt.of hz.1 (Int.lt_trans hz.2 (by decide))
    obtain ⟨s1, e1, b1⟩ := stir_eq hs k z i (zb.mono (by decide)) ⟨by omega, by omega⟩
    obtain ⟨s2, e2, b2⟩ := stir_eq hs k (s1 + z) i (Bt.of (by omega) (Int.lt_trans (show s1 + z < 2 ^ 50 by omega) (by decide +kernel))) ⟨by omega, by omega⟩
    have sb := sub_lst (intsD_at (c := bs) (i := i) hi)
    have bb := hb bs[i] (List.getElem_mem hi)
    have w0 := hw.1
    have wl : w < 18446744073709551616 := by omega
    have key : ∀ t : Int, 0 ≤ t ∧ t < w → binD .mul (.int st) (.int t) = .ok (.d (.int (st * t))) ∧ Col (l ++ [bs[i] + st * t]) (i + 1) := fun t ht => by
      have h1 : 0 ≤ st * t := Int.mul_nonneg hst.1 ht.1
      have h2 : st * t ≤ 1000000000039 * 100 := Int.mul_le_mul hst.2 (by omega) ht.1 (by decide)
      exact ⟨mul_sm (by omega) (by omega), by rw [List.length_append, hcl.len]; rfl, fun y hy => by
        rcases List.mem_append.mp hy with hy | hy
        · exact hcl.ok y hy
        · rw [List.mem_singleton.mp hy]; omega⟩
    by_cases g : 0 < r
    · obtain ⟨mm, kk⟩ := key (r % w) ⟨Int.emod_nonneg _ (by omega), Int.emod_lt_of_pos _ w0⟩
      have sn := intsD_snoc l (bs[i] + st * (r % w))
      generalize intsD l = L at ll sn ⊢
      simp [bColumn, e1, e2, w0, wl, g, sb, mm, ll, sn]
      exact ⟨_, _, ⟨rfl, rfl⟩, kk⟩
    · obtain ⟨mm, kk⟩ := key (s2 % w) ⟨Int.emod_nonneg _ (by omega), Int.emod_lt_of_pos _ w0⟩
      have sn := intsD_snoc l (bs[i] + st * (s2 % w))
      generalize intsD l = L at ll sn ⊢
      simp [bColumn, e1, e2, w0, wl, g, sb, mm, ll, sn]
      exact ⟨_, _, ⟨rfl, rfl⟩, kk⟩
  · rintro S ⟨r, l, y, y2, rfl, hcl⟩
    rw [List.length_map, List.length_range] at hcl
    exact ⟨l, by simp, hcl⟩
end Fv
end
section
set_option maxHeartbeats 1000000
namespace Fv
open PySem
/-- the first place from i on, n places, at which P -/
def fst (P : Nat → Bool) : Nat → Nat → Option Int
  | _, 0 => none
  | i, n + 1 => if P i = true then some (i : Int) else fst P (i + 1) n
theorem fst_congr {P Q : Nat → Bool} : ∀ {n i : Nat}, (∀ j, i ≤ j → j < i + n → (∀ h, i ≤ h → h < j → P h = false) → P j = Q j) → fst P i n = fst Q i n
  | 0, _, _ => rfl
  | n + 1, i, h => by
    have h0 := h i (Nat.le_refl i) (by omega) (fun a b c => by omega)
    show (if P i = true then _ else _) = (if Q i = true then _ else _)
    rw [← h0]
    by_cases g : P i = true
    · rw [if_pos g, if_pos g]
    · rw [if_neg g, if_neg g]
      refine fst_congr fun j h1 h2 h3 => h j (by omega) (by omega) fun a h4 h5 => ?_
      by_cases ha : a = i
      · rw [ha]; simpa using g
      · exact h3 a (by omega) h5
theorem fst_none {P : Nat → Bool} : ∀ {n i : Nat}, fst P i n = none → ∀ j, i ≤ j → j < i + n → P j = false
  | 0, _, _, j, h1, h2 => by omega
  | n + 1, i, h, j, h1, h2 => by
    have h : (if P i = true then some (i : Int) else fst P (i + 1) n) = none := h
    by_cases g : P i = true
    · rw [if_pos g] at h; cases h
    · rw [if_neg g] at h
      by_cases hj : j = i
      · rw [hj]; simpa using g
      · exact fst_none h j (by omega) (by omega)
theorem fst_some {P : Nat → Bool} {p : Int} : ∀ {n i : Nat}, fst P i n = some p → ∃ q : Nat, p = (q : Int) ∧ i ≤ q ∧ q < i + n ∧ P q = true ∧ ∀ j, i ≤ j → j < q → P j = false
  | 0, _, h => by cases h
  | n + 1, i, h => by
    have h : (if P i = true then some (i : Int) else fst P (i + 1) n) = some p := h
    by_cases g : P i = true
    · rw [if_pos g] at h
      cases h
      exact ⟨i, rfl, Nat.le_refl i, by omega, g, fun j h1 h2 => by omega⟩
    · rw [if_neg g] at h
      obtain ⟨q, e, h1, h2, h3, h4⟩ := fst_some h
      refine ⟨q, e, by omega, by omega, h3, fun j h5 h6 => ?_⟩
      by_cases hj : j = i
      · rw [hj]; simpa using g
      · exact h4 j (by omega) h6
/-- a loop that looks for it -/
theorem first_loop {b k : Sg → Out} {v : Nat} (P : Nat → Bool) (S0 : Sl → Sg) (hset : ∀ x y, (S0 x).set v y = S0 y) (hk : ∀ x, (k (S0 x)).val = .ok (.d .non)) : ∀ (n i : Nat) (x : Sl), (∀ j, i ≤ j → j < i + n → b (S0 (.fz (.int (j : Nat)))) = if P j = true then .rt (.d (.int (j : Nat))) else .nx (S0 (.fz (.int (j : Nat))))) →
    ((forL (.one v) b ((List.range' i n).map fun j => .int (j : Nat)) (S0 x)).thn k).val = .ok (.d (oD (fst P i n)))
  | 0, i, x, _ => by
    show ((Out.nx (S0 x)).thn k).val = _
    rw [thn_nx, hk]
    rfl
  | n + 1, i, x, h => by
    rw [List.range'_succ, List.map_cons, forL_cons, set_one, Out.of_ok, hset, h i (Nat.le_refl i) (by omega)]
    show _ = R.ok (Val.d (oD (if P i = true then _ else _)))
    by_cases g : P i = true
    · rw [if_pos g, if_pos g]
      rfl
    · rw [if_neg g, if_neg g, turn_nx]
      exact first_loop P S0 hset hk n (i + 1) _ fun j h1 h2 => h j (by omega) (by omega)
theorem rng_r {n : Nat} (h : n < 1000000000) : rngD 0 (n : Int) = .ok ((List.range' 0 n).map fun i => .int (i : Nat)) := by
  rw [rng_n h, List.range_eq_range']
theorem rng2_r {a b : Nat} (ha : a < 1000000000) (hb : b < 1000000000) : rngD (a : Int) (b : Int) = .ok ((List.range' a (b - a)).map fun i => .int (i : Nat)) := by
  rw [rng2_n ha hb, List.range'_eq_map_range, List.map_map]
  rfl
/-- the column ahead of a place -/
def prv (L : List (List Int)) : Nat → Option (List Int)
  | 0 => none
  | i + 1 => L[i]?
/-- the column at a place -/
def colAt (L : List (List Int)) (i : Nat) : List Int := L.getD i []
theorem colAt_eq {L : List (List Int)} {i : Nat} (h : i < L.length) : colAt L i = L[i] := by
  unfold colAt
  rw [List.getD_eq_getElem?_getD, List.getElem?_eq_getElem h]; rfl
theorem prv_succ {L : List (List Int)} {i : Nat} (h : i < L.length) : prv L (i + 1) = some (colAt L i) := by
  show L[i]? = _
  rw [List.getElem?_eq_getElem h, colAt_eq h]
def brkEnd (r : Rul) (L : List (List Int)) (m : Int) : Option Int → Option Int
  | some p => some p
  | none => if r.closes m (prv L L.length) = true then none else some (L.length : Int)
theorem brk_gen (r : Rul) (L : List (List Int)) (M : Nat → Int) (P : Nat → Bool) : ∀ (k i : Nat), i + k = L.length → (∀ j, i ≤ j → j < L.length → r.after (M j) (prv L j) (colAt L j) = if P j = true then none else some (M (j + 1))) →
    r.brk i (M i) (prv L i) (L.drop i) = brkEnd r L (M L.length) (fst P i k)
  | 0, i, hi, _ => by
    have hi : i = L.length := by omega
    subst hi
    rw [List.drop_length]
    rfl
  | k + 1, i, hi, h => by
    have hl : i < L.length := by omega
    have h0 := h i (Nat.le_refl i) hl
    rw [List.drop_eq_getElem_cons hl, ← colAt_eq hl]
    show (match r.after (M i) (prv L i) (colAt L i) with | none => some (i : Int) | some m' => r.brk (i + 1) m' (some (colAt L i)) (L.drop (i + 1))) = brkEnd r L _ (if P i = true then _ else _)
    rw [h0]
    by_cases g : P i = true
    · rw [if_pos g, if_pos g]; rfl
    · rw [if_neg g, if_neg g]
      have ih := brk_gen r L M P k (i + 1) (by omega) fun j h1 h2 => h j (by omega) h2
      rw [prv_succ hl] at ih
      exact ih
theorem broken_gen {r : Rul} {L : List (List Int)} {M : Nat → Int} {P : Nat → Bool} (h0 : M 0 = 0) (h : ∀ j, j < L.length → r.after (M j) (prv L j) (colAt L j) = if P j = true then none else some (M (j + 1))) : r.broken L = brkEnd r L (M L.length) (fst P 0 L.length) := by
  have z := brk_gen r L M P L.length 0 (by omega) fun j _ hj => h j hj
  rw [h0] at z
  exact z
/-- rules without memory -/
theorem broken_flat {r : Rul} {L : List (List Int)} {P : Nat → Bool} (hc : ∀ b, r.closes 0 b = true) (h : ∀ j, j < L.length → r.after 0 (prv L j) (colAt L j) = if P j = true then none else some 0) : r.broken L = fst P 0 L.length := by
  rw [broken_gen (M := fun _ => 0) rfl h]
  cases fst P 0 L.length with
  | some p => rfl
  | none => show (if r.closes 0 _ = true then none else _) = none; rw [hc, if_pos rfl]
/-- lines of columns -/
structure Lin (l : List (List Int)) (v : Nat) : Prop where
  len : l.length ≤ 60
  ok : ∀ c ∈ l, Col c v
theorem Lin.nil {v : Nat} : Lin [] v := ⟨by decide, fun _ h => nomatch h⟩
theorem Lin.col {l : List (List Int)} {v i : Nat} (h : Lin l v) (hi : i < l.length) : Col (colAt l i) v := by rw [colAt_eq hi]; exact h.ok _ (List.getElem_mem hi)
theorem Lin.take {l : List (List Int)} {v : Nat} (h : Lin l v) (n : Nat) : Lin (l.take n) v := ⟨by rw [List.length_take]; have := h.len; omega, fun c hc => h.ok c (List.mem_of_mem_take hc)⟩
theorem Lin.drop {l : List (List Int)} {v : Nat} (h : Lin l v) (n : Nat) : Lin (l.drop n) v := ⟨by rw [List.length_drop]; have := h.len; omega, fun c hc => h.ok c (List.mem_of_mem_drop hc)⟩
theorem Lin.rev {l : List (List Int)} {v : Nat} (h : Lin l v) : Lin l.reverse v := ⟨by rw [List.length_reverse]; exact h.len, fun c hc => h.ok c (List.mem_reverse.mp hc)⟩
theorem Lin.lens {l : List (List Int)} {v : Nat} (h : Lin l v) : ∀ c ∈ l, c.length = v := fun c hc => (h.ok c hc).len
theorem sub_col {l : List (List Int)} {i : Nat} (h : i < l.length) : subD (.lst (colsT l)) (.int (i : Int)) = .ok (.tup (intsD (colAt l i))) := by rw [sub_lst (colsT_at h), colAt_eq h]
/-- a column's note -/
theorem sub_cn {c : List Int} {v i : Nat} (h : Col c v) (hi : i < v) : subD (.tup (intsD c)) (.int (i : Int)) = .ok (.int (nt c i)) := sub_nt (by rw [h.len]; exact hi)
/-- [:-1] -/
theorem cut_last {α : Type} (xs : List α) : cut xs none (some (-1)) = xs.take (xs.length - 1) := by
  unfold cut
  rw [HT.sIx_none, List.drop_zero, Nat.sub_zero]
  have e : HT.sIx xs.length xs.length (some (-1)) = xs.length - 1 := by
    show (if (-1 : Int) < 0 then ((-1 : Int) + (xs.length : Int)).toNat else min (-1 : Int).toNat xs.length) = _
    rw [if_pos (by decide)]
    omega
  rw [e]
theorem slc_cols_last (l : List (List Int)) : slcD (.lst (colsT l)) none (some (-1)) = .ok (.fr (colsT (l.take (l.length - 1)))) := by
  show R.ok (Val.fr (cut (colsT l) none (some (-1)))) = _
  rw [cut_last, colsT_len, colsT_take]
theorem ixOf_last {n : Nat} (h : 0 < n) : ixOf n (-1) = some (n - 1) := by
  unfold ixOf
  rw [if_neg (by decide), if_pos (by omega)]
  congr 1
  omega
theorem sub_last {l : List (List Int)} (h : 0 < l.length) : subD (.lst (colsT l)) (.int (-1)) = .ok (.tup (intsD (colAt l (l.length - 1)))) := by
  show optR ((ixOf (colsT l).length (-1)).bind ((colsT l)[·]?)) _ = _
  rw [colsT_len, ixOf_last h]
  show optR ((colsT l)[l.length - 1]?) _ = _
  rw [colsT_at (by omega), colAt_eq (by omega)]
  rfl
/-- 1, 5 or a great one -/
theorem step3 {j : Int} (h : 0 ≤ j ∧ j < 3) : ∃ st : Int, subD (.lst [.int 1, .int 5, .int 1000000000039]) (.int j) = .ok (.int st) ∧ 0 ≤ st ∧ st ≤ 1000000000039 := by
  have h3 : j = 0 ∨ j = 1 ∨ j = 2 := by omega
  rcases h3 with rfl | rfl | rfl
  · exact ⟨1, rfl, by decide, by decide⟩
  · exact ⟨5, rfl, by decide, by decide⟩
  · exact ⟨1000000000039, rfl, by decide, by decide⟩
theorem smi_of {x : Int} (h : -3000000000000000000000000000000000000000 ≤ x ∧ x ≤ 3000000000000000000000000000000000000000) : SmI x := by
  have : (3000000000000000000000000000000000000000 : Nat) < 10 ^ 40 := by decide
  unfold SmI
  omega
theorem smi_bt {x : Int} (h : SmI x) : Bt 1900 x := Nat.lt_of_lt_of_le h (by decide +kernel)
/-- the words of a row of a kind and numbers -/
def kindD (k : Tx) (is : List Int) : List D := .str k :: intsD is
theorem kindD_len (k : Tx) (is : List Int) : (kindD k is).length = is.length + 1 := by unfold kindD; rw [List.length_cons, intsD_len]
/-- .. as texts -/
theorem comp_words {Γ : Fns} {T : Sg} {v : Nat} {q : Ex} {k : Tx} {is : List Int} (h : ∀ i ∈ is, SmI i) (hq : ∀ d r, biD .str [d] = .ok r → elt Γ q (T.set v (.fz d)) = .ok r.D) : compL (.one v) T (evT Γ (.cst (.bl true))) (elt Γ q) (kindD k is) [] = .ok (strsD (k :: is.map itx)) := by
  have z := compL_map (tg := .one v) (S := T) (c := evT Γ (.cst (.bl true))) (e := elt Γ q) (fun o : Option Int => match o with | none => D.str k | some i => .int i) (fun o => match o with | none => D.str k | some i => .str (itx i)) (none :: is.map some) [] fun x hx => by
    cases x with
    | none => exact ⟨_, rfl, by simp, hq _ _ bi_str_str⟩
    | some i =>
      have hi : i ∈ is := by
        rcases List.mem_cons.mp hx with h | h
        · cases h
        · obtain ⟨j, hj, e⟩ := List.mem_map.mp h
          cases e
          exact hj
      exact ⟨_, rfl, by simp, hq _ _ (bi_str_int (smi_bt (h i hi)))⟩
  unfold kindD intsD strsD
  rw [List.map_cons, List.map_map] at z
  rw [List.map_cons, List.map_map]
  refine z.trans ?_
  rw [List.map_cons, List.map_map]
  rfl
theorem cells_len {ns : List Int} (a b : Nat) (hb : b ≤ a + 60) : (cut ns (some (a : Int)) (some (b : Int))).length ≤ 60 := by
  rw [cut_mid, List.length_take]
  omega
theorem comp_cols {Γ : Fns} {q : Ex} {T : Sg} {v n : Nat} (cells : List Int) (h : ∀ x ∈ cells, ∃ c, elt Γ q (T.set v (.fz (.int x))) = .ok (.tup (intsD c)) ∧ Col c n) : ∃ L, compL (.one v) T (evT Γ (.cst (.bl true))) (elt Γ q) (intsD cells) [] = .ok (colsT L) ∧ L.length = cells.length ∧ ∀ c ∈ L, Col c n := by
  classical
  obtain ⟨f, hf⟩ : ∃ f : Int → List Int, ∀ x ∈ cells, elt Γ q (T.set v (.fz (.int x))) = .ok (.tup (intsD (f x))) ∧ Col (f x) n :=
    ⟨fun x => if hx : x ∈ cells then (h x hx).choose else [], fun x hx => by
      show elt Γ q _ = .ok (.tup (intsD (if hx : x ∈ cells then (h x hx).choose else []))) ∧ Col (if hx : x ∈ cells then (h x hx).choose else []) n
      rw [dif_pos hx]
      exact (h x hx).choose_spec⟩
  refine ⟨cells.map f, ?_, List.length_map .., fun c hc => by
    obtain ⟨x, hx, rfl⟩ := List.mem_map.mp hc
    exact (hf x hx).2⟩
  have z := compL_map (tg := .one v) (S := T) (c := evT Γ (.cst (.bl true))) (e := elt Γ q) D.int (fun x => .tup (intsD (f x))) cells [] fun x hx => ⟨_, rfl, by simp, (hf x hx).1⟩
  unfold intsD colsT
  rw [List.map_map]
  exact z
theorem colsT_rev (l : List (List Int)) : (colsT l).reverse = colsT l.reverse := by unfold colsT; rw [List.map_reverse]
theorem kept_oD (b : Bool) (x : Option Int) : kept b (.d (oD x)) = .ok (.d (oD x)) := by cases x <;> simp
theorem ints_some {l : List Int} {i : Nat} {x : D} (e : (intsD l)[i]? = some x) : ∃ hi : i < l.length, x = .int l[i] := by
  have hi : i < l.length := by
    have := (List.getElem?_eq_some_iff.mp e).1
    simpa using this
  rw [intsD_at hi] at e
  exact ⟨hi, (Option.some.inj e).symm⟩
end Fv
end
section
set_option maxHeartbeats 1000000
namespace Fv
theorem every_words {m a : Int} {r : Rul} {n : Nat} (hn : n ≤ 1000) (h : (Rul.every m a r).Ok n) : r.Ok n ∧ r.flat = true ∧ (r.kind = wSpan ∨ r.kind = wClock) ∧ (1 ≤ m ∧ SmI m) ∧ (0 ≤ a ∧ a < m) := by
  cases r with
  | span x y s => exact ⟨⟨h.2.2.1, h.2.2.2.1, h.2.2.2.2⟩, rfl, .inl rfl, h.1, h.2.1⟩
  | clock x y z s => exact ⟨⟨h.2.2.1, h.2.2.2.1, h.2.2.2.2.1, h.2.2.2.2.2⟩, rfl, .inr rfl, h.1, h.2.1⟩
  | _ => exact h.elim
theorem all_words {n : Nat} (hn : n ≤ 1000) {r : Rul} (h : r.Ok n) : (∀ w ∈ r.words, wordOk w) ∧ r.words.length ≤ 19 := by
  by_cases hf : r.flat = true
  · obtain ⟨h1, h2⟩ := flat_words hn h hf
    exact ⟨h1, by omega⟩
  · cases r with
    | every m a r =>
      obtain ⟨g1, g2, _, g4, g5⟩ := every_words hn h
      obtain ⟨h1, h2⟩ := flat_words hn g1 g2
      have sa : SmI a := by have := g4.2; unfold SmI at *; omega
      refine ⟨fun w hw => ?_, by show (wEvery :: itx m :: itx a :: r.words).length ≤ 19; simp only [List.length_cons]; omega⟩
      rcases List.mem_cons.mp hw with rfl | hw
      · exact kind_word (.every m a r)
      rcases List.mem_cons.mp hw with rfl | hw
      · exact itx_word g4.2
      rcases List.mem_cons.mp hw with rfl | hw
      · exact itx_word sa
      exact h1 w hw
    | _ => exact absurd rfl hf
def cnt (L : List (List Int)) (v : Nat) (x : Int) : Nat := (L.filter fun c => decide (nt c v = x)).length
theorem cnt_le (L : List (List Int)) (v : Nat) (x : Int) : cnt L v x ≤ L.length := List.length_filter_le _ _
theorem cnt_snoc (L : List (List Int)) (c : List Int) (v : Nat) (x : Int) : cnt (L ++ [c]) v x = cnt L v x + if nt c v = x then 1 else 0 := by
  unfold cnt
  rw [List.filter_append, List.length_append]
  congr 1
  by_cases g : nt c v = x
  · simp [g]
  · simp [g]
theorem cnt_take (L : List (List Int)) (v : Nat) (x : Int) (j : Nat) (hj : j < L.length) : cnt (L.take (j + 1)) v x = cnt (L.take j) v x + if nt (colAt L j) v = x then 1 else 0 := by
  rw [List.take_succ_eq_append_getElem hj, cnt_snoc, colAt_eq hj]
def rl (L : List (List Int)) (v : Nat) : Nat → Nat
  | 0 => 0
  | j + 1 => if j ≠ 0 ∧ nt (colAt L j) v = nt (colAt L (j - 1)) v then rl L v j + 1 else 0
theorem rl_iff (L : List (List Int)) (v : Nat) : ∀ (j t : Nat), t ≤ rl L v (j + 1) ↔ t ≤ j ∧ ∀ k, 1 ≤ k → k ≤ t → nt (colAt L (j - k)) v = nt (colAt L j) v
  | j, 0 => ⟨fun _ => ⟨Nat.zero_le _, fun k h1 h2 => by omega⟩, fun _ => Nat.zero_le _⟩
  | 0, t + 1 => by
    have e : rl L v 1 = 0 := rfl
    rw [e]
    exact ⟨fun h => by omega, fun h => by omega⟩
  | j + 1, t + 1 => by
    have ih := rl_iff L v j t
    have e : rl L v (j + 1 + 1) = if nt (colAt L (j + 1)) v = nt (colAt L j) v then rl L v (j + 1) + 1 else 0 := by
      show (if j + 1 ≠ 0 ∧ nt (colAt L (j + 1)) v = nt (colAt L (j + 1 - 1)) v then _ else _) = _
      rw [Nat.add_sub_cancel]
      by_cases g : nt (colAt L (j + 1)) v = nt (colAt L j) v
      · rw [if_pos ⟨by omega, g⟩, if_pos g]
      · rw [if_neg (fun z => g z.2), if_neg g]
    rw [e]
    by_cases g : nt (colAt L (j + 1)) v = nt (colAt L j) v
    · rw [if_pos g]
      constructor
      · intro h
        obtain ⟨h1, h2⟩ := ih.mp (by omega)
        refine ⟨by omega, fun k k1 k2 => ?_⟩
        by_cases hk : k = 1
        · rw [hk, Nat.add_sub_cancel, g]
        · have := h2 (k - 1) (by omega) (by omega)
          rw [show j + 1 - k = j - (k - 1) from by omega, this, g]
      · rintro ⟨h1, h2⟩
        have : t ≤ rl L v (j + 1) := ih.mpr ⟨by omega, fun k k1 k2 => by
          have := h2 (k + 1) (by omega) (by omega)
          rw [show j + 1 - (k + 1) = j - k from by omega, g] at this
          exact this⟩
        omega
    · rw [if_neg g]
      constructor
      · intro h; omega
      · rintro ⟨h1, h2⟩
        have := h2 1 (by omega) (by omega)
        rw [Nat.add_sub_cancel] at this
        exact absurd this.symm g
theorem rl_step (L : List (List Int)) (v j : Nat) : rl L v (j + 1) ≤ rl L v j + 1 := by
  have e : rl L v (j + 1) = if j ≠ 0 ∧ nt (colAt L j) v = nt (colAt L (j - 1)) v then rl L v j + 1 else 0 := rfl
  rw [e]
  split
  · exact Nat.le_refl _
  · exact Nat.zero_le _
theorem rl_succ (L : List (List Int)) (v j : Nat) : rl L v (j + 1 + 1) = if nt (colAt L (j + 1)) v = nt (colAt L j) v then rl L v (j + 1) + 1 else 0 := by
  show (if j + 1 ≠ 0 ∧ nt (colAt L (j + 1)) v = nt (colAt L (j + 1 - 1)) v then _ else _) = _
  rw [Nat.add_sub_cancel]
  by_cases g : nt (colAt L (j + 1)) v = nt (colAt L j) v
  · rw [if_pos ⟨by omega, g⟩, if_pos g]
  · rw [if_neg (fun z => g z.2), if_neg g]
def mv (L : List (List Int)) (v j : Nat) : Int := nt (colAt L j) v - nt (colAt L (j - 1)) v
def sp (L : List (List Int)) (a b j : Nat) : Int := nt (colAt L j) b - nt (colAt L j) a
/-- where the row's words have a rule broken, by all columns up to there -/
def lb : Rul → List (List Int) → Nat → Bool
  | .span a b s, L, j => !decide (sp L a b j ∈ s)
  | .clock a b m s, L, j => !decide (sp L a b j % m ∈ s)
  | .begin v s, L, j => decide (j = 0) && !decide (nt (colAt L j) v ∈ s)
  | .close _ _, _, _ => false
  | .times v x _ hi, L, j => decide (nt (colAt L j) v = x) && decide (hi ≤ (cnt (L.take j) v (nt (colAt L j) v) : Int))
  | .held v m, L, j => if (j : Int) < m then false else ((L.drop (j - m.toNat)).take m.toNat).all fun c => decide (nt c v = nt (colAt L j) v)
  | .move v s, L, j => decide (0 < j) && !decide (mv L v j ∈ s)
  | .alike a b s, L, j => decide (0 < j) && (decide (mv L a j ≠ 0) && (decide (sp L a b j = sp L a b (j - 1)) && decide (sp L a b j ∈ s)))
  | .back v d, L, j => decide (0 < j) && (if j = 1 then false else (decide (d < mv L v (j - 1)) && decide (0 ≤ mv L v j)) || (decide (mv L v (j - 1) < 0 - d) && decide (mv L v j ≤ 0)))
  | .every m a r, L, j => decide ((j : Int) % m = a) && lb r L j
/-- .. at the close -/
def opn : Rul → List (List Int) → Bool
  | .times v x lo _, L => decide ((cnt L v x : Int) < lo)
  | .close v s, L => decide (L ≠ []) && !decide (nt (colAt L (L.length - 1)) v ∈ s)
  | .back v d, L => decide (1 < L.length) && decide (d < ((mv L v (L.length - 1)).natAbs : Int))
  | _, _ => false
def memB (L : List (List Int)) (v : Nat) (d : Int) : Nat → Int
  | 0 => 0
  | j + 1 => if j = 0 then 0 else if d < mv L v j then 1 else if mv L v j < 0 - d then 2 else 0
def Mem : Rul → List (List Int) → Nat → Int
  | .back v d, L, j => memB L v d j
  | .held v _, L, j => (rl L v j : Int)
  | .times v x _ _, L, j => (cnt (L.take j) v x : Int)
  | .every m _ _, _, j => (j : Int) % m
  | _, _, _ => 0
theorem Mem_zero (r : Rul) (L : List (List Int)) : Mem r L 0 = 0 := by
  cases r <;> first | rfl | simp [Mem, rl, cnt]
theorem all_cut {p : List Int → Bool} (L : List (List Int)) (a t : Nat) (h : a + t ≤ L.length) : ((L.drop a).take t).all p = true ↔ ∀ i, i < t → p (colAt L (a + i)) = true := by
  rw [List.all_eq_true]
  constructor
  · intro hx i hi
    refine hx _ ?_
    rw [colAt_eq (by omega)]
    rw [List.mem_iff_getElem]
    refine ⟨i, by rw [List.length_take, List.length_drop]; omega, ?_⟩
    rw [List.getElem_take, List.getElem_drop]
  · intro hx c hc
    obtain ⟨i, hi, rfl⟩ := List.mem_iff_getElem.mp hc
    rw [List.length_take, List.length_drop] at hi
    rw [List.getElem_take, List.getElem_drop]
    have := hx i (by omega)
    rw [colAt_eq (by omega)] at this
    exact this
theorem held_iff (L : List (List Int)) (v : Nat) (m : Int) (hm : 1 ≤ m) (j : Nat) (hj : j < L.length) : lb (.held v m) L j = decide (m ≤ (rl L v (j + 1) : Int)) := by
  have h := rl_iff L v j m.toNat
  have e : (m ≤ (rl L v (j + 1) : Int)) ↔ m.toNat ≤ rl L v (j + 1) := by omega
  show (if (j : Int) < m then false else _) = _
  by_cases g : (j : Int) < m
  · rw [if_pos g, decide_eq_false]
    rw [e, h]
    intro z
    omega
  · rw [if_neg g, Bool.eq_iff_iff, decide_eq_true_eq, e, h, all_cut L (j - m.toNat) m.toNat (by omega)]
    constructor
    · intro hx
      refine ⟨by omega, fun k k1 k2 => ?_⟩
      have := of_decide_eq_true (hx (m.toNat - k) (by omega))
      rw [show j - m.toNat + (m.toNat - k) = j - k from by omega] at this
      exact this
    · rintro ⟨_, hx⟩ i hi
      have := hx (m.toNat - i) (by omega) (by omega)
      rw [show j - (m.toNat - i) = j - m.toNat + i from by omega] at this
      exact decide_eq_true this
theorem rl_lt (L : List (List Int)) (v : Nat) (m : Int) (hm : 1 ≤ m) : ∀ j, j ≤ L.length → (∀ i, i < j → lb (.held v m) L i = false) → (rl L v j : Int) < m
  | 0, _, _ => by show ((0 : Nat) : Int) < m; omega
  | j + 1, hj, h => by
    have h3 := h j (by omega)
    rw [held_iff L v m hm j (by omega)] at h3
    have := of_decide_eq_false h3
    omega
theorem cnt_hi (L : List (List Int)) (v : Nat) (x lo hi : Int) (h0 : 0 ≤ hi) : ∀ j, j ≤ L.length → (∀ i, i < j → lb (.times v x lo hi) L i = false) → (cnt (L.take j) v x : Int) ≤ hi
  | 0, _, _ => h0
  | j + 1, hj, h => by
    have h1 := cnt_hi L v x lo hi h0 j (by omega) fun i hi => h i (by omega)
    have h2 : (decide (nt (colAt L j) v = x) && decide (hi ≤ (cnt (L.take j) v (nt (colAt L j) v) : Int))) = false := h j (by omega)
    rw [cnt_take L v x j (by omega)]
    by_cases g : nt (colAt L j) v = x
    · rw [if_pos g]
      rw [decide_eq_true g, Bool.true_and, g] at h2
      have := of_decide_eq_false h2
      omega
    · rw [if_neg g]
      exact h1
theorem flat_zero {r : Rul} {n : Nat} (h : r.kind = wSpan ∨ r.kind = wClock) (L : List (List Int)) (j : Nat) : r.after 0 (prv L j) (colAt L j) = if lb r L j = true then none else some 0 := by
  cases r with
  | span a b s =>
    show (if nt (colAt L j) b - nt (colAt L j) a ∈ s then some 0 else none) = if (!decide (nt (colAt L j) b - nt (colAt L j) a ∈ s)) = true then none else some 0
    by_cases g : nt (colAt L j) b - nt (colAt L j) a ∈ s <;> simp [g]
  | clock a b m s =>
    show (if (nt (colAt L j) b - nt (colAt L j) a) % m ∈ s then some 0 else none) = if (!decide ((nt (colAt L j) b - nt (colAt L j) a) % m ∈ s)) = true then none else some 0
    by_cases g : (nt (colAt L j) b - nt (colAt L j) a) % m ∈ s <;> simp [g]
  | _ => rcases h with h | h <;> exact absurd h (by simp [Rul.kind, wSpan, wClock, wMove, wAlike, wBack, wHeld, wTimes, wBegin, wClose, wEvery])
theorem stepA {r : Rul} {n : Nat} (hn : n ≤ 1000) (hok : r.Ok n) (L : List (List Int)) (j : Nat) (hj : j < L.length) (hno : ∀ i, i < j → lb r L i = false) : r.after (Mem r L j) (prv L j) (colAt L j) = if lb r L j = true then none else some (Mem r L (j + 1)) := by
  cases r with
  | span a b s => exact flat_zero (n := n) (.inl rfl) L j
  | clock a b m s => exact flat_zero (n := n) (.inr rfl) L j
  | every m a r =>
    obtain ⟨g1, g2, g3, g4, g5⟩ := every_words hn hok
    have e : (Rul.every m a r).after ((j : Int) % m) (prv L j) (colAt L j) = if (j : Int) % m = a ∧ r.after 0 (prv L j) (colAt L j) = none then none else some (((j : Int) % m + 1) % m) := rfl
    have em : ((j : Int) % m + 1) % m = ((j + 1 : Nat) : Int) % m := by
      rw [Int.emod_add_emod]
      rfl
    show (Rul.every m a r).after ((j : Int) % m) (prv L j) (colAt L j) = if (decide ((j : Int) % m = a) && lb r L j) = true then none else some (((j + 1 : Nat) : Int) % m)
    rw [e, em, flat_zero (n := n) g3 L j]
    by_cases g : (j : Int) % m = a
    · cases lb r L j <;> simp [g]
    · simp [g]
  | begin v s =>
    cases j with
    | zero =>
      show (if nt (colAt L 0) v ∈ s then some 0 else none) = if (decide ((0 : Nat) = 0) && !decide (nt (colAt L 0) v ∈ s)) = true then none else some 0
      by_cases g : nt (colAt L 0) v ∈ s <;> simp [g]
    | succ j =>
      rw [prv_succ (by omega)]
      rfl
  | close v s => cases hp : prv L j <;> rfl
  | move v s =>
    cases j with
    | zero => rfl
    | succ j =>
      rw [prv_succ (by omega)]
      show (if nt (colAt L (j + 1)) v - nt (colAt L j) v ∈ s then some 0 else none) = if (decide (0 < j + 1) && !decide (nt (colAt L (j + 1)) v - nt (colAt L j) v ∈ s)) = true then none else some 0
      by_cases g : nt (colAt L (j + 1)) v - nt (colAt L j) v ∈ s <;> simp [g]
  | alike a b s =>
    cases j with
    | zero => rfl
    | succ j =>
      rw [prv_succ (by omega)]
      show (if nt (colAt L (j + 1)) a = nt (colAt L j) a then some 0 else if sp L a b (j + 1) = sp L a b j ∧ sp L a b (j + 1) ∈ s then none else some 0) = if (decide (0 < j + 1) && (decide (nt (colAt L (j + 1)) a - nt (colAt L j) a ≠ 0) && (decide (sp L a b (j + 1) = sp L a b j) && decide (sp L a b (j + 1) ∈ s)))) = true then none else some 0
      have hz : (nt (colAt L (j + 1)) a - nt (colAt L j) a ≠ 0) ↔ ¬ nt (colAt L (j + 1)) a = nt (colAt L j) a := by omega
      have hd : decide (nt (colAt L (j + 1)) a - nt (colAt L j) a ≠ 0) = decide (¬ nt (colAt L (j + 1)) a = nt (colAt L j) a) := decide_eq_decide.mpr hz
      rw [hd]
      generalize sp L a b (j + 1) = s1
      generalize sp L a b j = s0
      by_cases g : nt (colAt L (j + 1)) a = nt (colAt L j) a
      · simp [g]
      · by_cases g2 : s1 = s0
        · by_cases g3 : s1 ∈ s
          · have g4 := g3
            rw [g2] at g4
            simp [g, g2, g4]
          · have g4 := g3
            rw [g2] at g4
            simp [g, g2, g4]
        · simp [g, g2]
  | times v x lo hi =>
    obtain ⟨_, _, _, h0, _⟩ := hok
    have hc := cnt_hi L v x lo hi h0 j (by omega) hno
    show (if nt (colAt L j) v = x then (if (cnt (L.take j) v x : Int) = hi then none else some ((cnt (L.take j) v x : Int) + 1)) else some (cnt (L.take j) v x : Int)) = if (decide (nt (colAt L j) v = x) && decide (hi ≤ (cnt (L.take j) v (nt (colAt L j) v) : Int))) = true then none else some (cnt (L.take (j + 1)) v x : Int)
    rw [cnt_take L v x j hj]
    by_cases g : nt (colAt L j) v = x
    · rw [g]
      by_cases g2 : (cnt (L.take j) v x : Int) = hi
      · simp [g2]
      · have g3 : ¬ hi ≤ (cnt (L.take j) v x : Int) := by omega
        simp [g2, g3]
    · simp [g]
  | held v m =>
    obtain ⟨_, hm, _⟩ := hok
    have hl := rl_lt L v m hm j (by omega) hno
    have hs := rl_step L v j
    rw [held_iff L v m hm j hj]
    cases j with
    | zero =>
      have e : rl L v (0 + 1) = 0 := rfl
      rw [e]
      show some 0 = if decide (m ≤ ((0 : Nat) : Int)) = true then none else some ((rl L v (0 + 1) : Nat) : Int)
      rw [e, if_neg (by simp; omega)]
      rfl
    | succ j =>
      rw [prv_succ (by omega)]
      show (if nt (colAt L (j + 1)) v = nt (colAt L j) v then (if (rl L v (j + 1) : Int) + 1 = m then none else some ((rl L v (j + 1) : Int) + 1)) else some 0) = if decide (m ≤ (rl L v (j + 1 + 1) : Int)) = true then none else some ((rl L v (j + 1 + 1) : Nat) : Int)
      rw [rl_succ]
      by_cases g : nt (colAt L (j + 1)) v = nt (colAt L j) v
      · rw [if_pos g, if_pos g, Int.natCast_add]
        by_cases g2 : (rl L v (j + 1) : Int) + 1 = m
        · have g3 : m ≤ (rl L v (j + 1) : Int) + 1 := by omega
          simp [g2]
        · have g3 : ¬ m ≤ (rl L v (j + 1) : Int) + 1 := by omega
          simp [g2, g3]
      · rw [if_neg g, if_neg g]
        have : ¬ m ≤ 0 := by omega
        simp [this]
  | back v d =>
    obtain ⟨_, hd, _⟩ := hok
    have hm1 : ∀ i, memB L v d (i + 1) = if i = 0 then 0 else if d < mv L v i then 1 else if mv L v i < 0 - d then 2 else 0 := fun i => rfl
    cases j with
    | zero => rfl
    | succ j =>
      rw [prv_succ (by omega)]
      show (if memB L v d (j + 1) = 1 ∧ 0 ≤ mv L v (j + 1) ∨ memB L v d (j + 1) = 2 ∧ mv L v (j + 1) ≤ 0 then none else if d < mv L v (j + 1) then some 1 else if mv L v (j + 1) < 0 - d then some 2 else some 0) = if (decide (0 < j + 1) && (if j + 1 = 1 then false else (decide (d < mv L v j) && decide (0 ≤ mv L v (j + 1))) || (decide (mv L v j < 0 - d) && decide (mv L v (j + 1) ≤ 0)))) = true then none else some (memB L v d (j + 1 + 1))
      rw [hm1 j, hm1 (j + 1), if_neg (show ¬ j + 1 = 0 by omega)]
      generalize mv L v (j + 1) = y
      have fin : (if d < y then some (1 : Int) else if y < 0 - d then some 2 else some 0) = some (if d < y then 1 else if y < 0 - d then 2 else 0) := by
        split
        · rfl
        · split <;> rfl
      rw [fin]
      generalize (if d < y then (1 : Int) else if y < 0 - d then 2 else 0) = z
      by_cases h0 : j = 0
      · simp [h0]
      · have h1 : ¬ j + 1 = 1 := by omega
        rw [if_neg h0, if_neg h1, decide_eq_true (show 0 < j + 1 by omega), Bool.true_and]
        generalize mv L v j = x
        by_cases g1 : d < x
        · have g2 : ¬ x < 0 - d := by omega
          by_cases g3 : 0 ≤ y
          · simp [g1, g3]
          · have g4 : ¬ x < -d := by omega
            simp [g1, g3, g4]
        · by_cases g2 : x < 0 - d
          · have g4 : x < -d := by omega
            by_cases g3 : y ≤ 0
            · simp [g1, g3, g4]
            · simp [g1, g3, g4]
          · have g4 : ¬ x < -d := by omega
            simp [g1, g4]
theorem stepB {r : Rul} {n : Nat} (hn : n ≤ 1000) (hok : r.Ok n) (L : List (List Int)) (j : Nat) (hj : j ≤ L.length) (hno : ∀ i, i < j → lb r L i = false) : 0 ≤ Mem r L j ∧ Mem r L j < r.size := by
  cases r with
  | every m a r =>
    obtain ⟨g1, g2, g3, g4, g5⟩ := every_words hn hok
    exact ⟨Int.emod_nonneg _ (by omega), Int.emod_lt_of_pos _ (by omega)⟩
  | held v m =>
    have := rl_lt L v m hok.2.1 j hj hno
    exact ⟨by show (0 : Int) ≤ (rl L v j : Int); omega, this⟩
  | times v x lo hi =>
    obtain ⟨_, _, _, h0, _⟩ := hok
    have := cnt_hi L v x lo hi h0 j hj hno
    exact ⟨by show (0 : Int) ≤ (cnt (L.take j) v x : Int); omega, by show (cnt (L.take j) v x : Int) < hi + 1; omega⟩
  | back v d =>
    cases j with
    | zero => exact ⟨Int.le_refl 0, show (0 : Int) < 3 by decide⟩
    | succ j =>
      have e : Mem (.back v d) L (j + 1) = if j = 0 then 0 else if d < mv L v j then 1 else if mv L v j < 0 - d then 2 else 0 := rfl
      have e2 : (Rul.back v d).size = 3 := rfl
      rw [e, e2]
      split
      · exact ⟨by decide, by decide⟩
      · split
        · exact ⟨by decide, by decide⟩
        · split <;> exact ⟨by decide, by decide⟩
  | _ => exact ⟨Int.le_refl 0, show (0 : Int) < 1 by decide⟩
theorem col_take {L : List (List Int)} {i j : Nat} (h : i < j) (hj : j ≤ L.length) : colAt (L.take j) i = colAt L i := by
  rw [colAt_eq (by rw [List.length_take]; omega), colAt_eq (by omega), List.getElem_take]
theorem stepC {r : Rul} {n : Nat} (hn : n ≤ 1000) (hok : r.Ok n) (L : List (List Int)) (j : Nat) (hj : j ≤ L.length) : r.closes (Mem r L j) (prv L j) = !opn r (L.take j) := by
  have hl : (L.take j).length = j := by rw [List.length_take]; omega
  cases r with
  | times v x lo hi =>
    show decide (lo ≤ (cnt (L.take j) v x : Int)) = !decide ((cnt (L.take j) v x : Int) < lo)
    rw [← decide_not]
    exact decide_eq_decide.mpr (by omega)
  | close v s =>
    cases j with
    | zero => rfl
    | succ j =>
      rw [prv_succ (by omega)]
      show decide (nt (colAt L j) v ∈ s) = !(decide (L.take (j + 1) ≠ []) && !decide (nt (colAt (L.take (j + 1)) ((L.take (j + 1)).length - 1)) v ∈ s))
      have hne : L.take (j + 1) ≠ [] := fun z => by rw [z] at hl; cases hl
      rw [hl, Nat.add_sub_cancel, col_take (by omega) hj, decide_eq_true hne, Bool.true_and, Bool.not_not]
  | back v d =>
    obtain ⟨_, hd, _⟩ := hok
    show decide (memB L v d j = 0) = !(decide (1 < (L.take j).length) && decide (d < ((mv (L.take j) v ((L.take j).length - 1)).natAbs : Int)))
    rw [hl]
    cases j with
    | zero => rfl
    | succ j =>
      have e : memB L v d (j + 1) = if j = 0 then 0 else if d < mv L v j then 1 else if mv L v j < 0 - d then 2 else 0 := rfl
      rw [e]
      by_cases h0 : j = 0
      · simp [h0]
      · have hm : mv (L.take (j + 1)) v (j + 1 - 1) = mv L v j := by
          rw [Nat.add_sub_cancel]
          unfold mv
          rw [col_take (by omega) hj, col_take (by omega) hj]
        rw [hm, if_neg h0, decide_eq_true (show 1 < j + 1 by omega), Bool.true_and]
        generalize mv L v j = x
        by_cases g1 : d < x
        · rw [if_pos g1, decide_eq_true (show d < ((x.natAbs : Nat) : Int) by omega)]
          rfl
        · rw [if_neg g1]
          by_cases g2 : x < 0 - d
          · rw [if_pos g2, decide_eq_true (show d < ((x.natAbs : Nat) : Int) by omega)]
            rfl
          · rw [if_neg g2, decide_eq_false (show ¬ d < ((x.natAbs : Nat) : Int) by omega)]
            rfl
  | span a b s => cases hp : prv L j <;> rfl
  | clock a b m s => cases hp : prv L j <;> rfl
  | move v s => cases hp : prv L j <;> rfl
  | alike a b s => cases hp : prv L j <;> rfl
  | held v m => cases hp : prv L j <;> rfl
  | begin v s => cases hp : prv L j <;> rfl
  | every m a r => cases hp : prv L j <;> rfl
/-- a row as the law has it -/
def rowD : Rul → List D
  | .every m a r => .str wEvery :: .int m :: .int a :: kindD r.kind r.nums
  | r => kindD r.kind r.nums
theorem rowD_flat {r : Rul} (h : r.flat = true) : rowD r = kindD r.kind r.nums := by cases r <;> first | rfl | cases h
theorem row_0 (r : Rul) : subD (.lst (rowD r)) (.int 0) = .ok (.str r.kind) := by cases r <;> exact sub_lst (i := 0) rfl
structure Li (L : List (List Int)) (v : Nat) : Prop where
  len : L.length ≤ 1000
  ok : ∀ c ∈ L, Col c v
theorem Li.col {l : List (List Int)} {v i : Nat} (h : Li l v) (hi : i < l.length) : Col (colAt l i) v := by rw [colAt_eq hi]; exact h.ok _ (List.getElem_mem hi)
theorem Lin.li {l : List (List Int)} {v : Nat} (h : Lin l v) : Li l v := ⟨by have := h.len; omega, h.ok⟩
theorem slc_row {k : Tx} {is : List Int} {n : Nat} : slcD (.lst (kindD k is)) (some ((n + 1 : Nat) : Int)) none = .ok (.fr (intsD (is.drop n))) := by
  rw [slc_lst_from]
  unfold kindD
  rw [List.drop_succ_cons, intsD_drop]
theorem sub_row {k : Tx} {is : List Int} {i : Nat} {x : Int} (h : is[i]? = some x) : subD (.lst (kindD k is)) (.int ((i + 1 : Nat) : Int)) = .ok (.int x) := by
  have hi : i < is.length := (List.getElem?_eq_some_iff.mp h).1
  refine sub_lst ?_
  unfold kindD
  rw [List.getElem?_cons_succ, intsD_at hi]
  rw [List.getElem?_eq_getElem hi] at h
  rw [Option.some.inj h]
theorem abs_eq (m : Int) : (if m < 0 then -m else m) = ((m.natAbs : Nat) : Int) := by split <;> omega
def dueR (r : Rul) (L : List (List Int)) : Option Int := match fst (lb r L) 0 L.length with
  | some p => some p
  | none => if opn r L = true then some (L.length : Int) else none
theorem key_from {r : Rul} {n : Nat} (hn : n ≤ 1000) (hok : r.Ok n) (L : List (List Int)) : ∀ (k i : Nat), i + k = L.length → (∀ j, j < i → lb r L j = false) → r.brk i (Mem r L i) (prv L i) (L.drop i) = match fst (lb r L) i k with | some p => some p | none => if opn r L = true then some (L.length : Int) else none
  | 0, i, hi, hno => by
    have hi : i = L.length := by omega
    subst hi
    rw [List.drop_length]
    have hC := stepC hn hok L L.length (Nat.le_refl _)
    rw [List.take_length] at hC
    show (if r.closes (Mem r L L.length) (prv L L.length) = true then none else some (L.length : Int)) = if opn r L = true then some (L.length : Int) else none
    rw [hC]
    cases opn r L <;> rfl
  | k + 1, i, hi, hno => by
    have hl : i < L.length := by omega
    have h0 := stepA hn hok L i hl hno
    rw [List.drop_eq_getElem_cons hl, ← colAt_eq hl]
    show (match r.after (Mem r L i) (prv L i) (colAt L i) with | none => some (i : Int) | some m' => r.brk (i + 1) m' (some (colAt L i)) (L.drop (i + 1))) = match (if lb r L i = true then some (i : Int) else fst (lb r L) (i + 1) k) with | some p => some p | none => _
    rw [h0]
    cases g : lb r L i with
    | true => rfl
    | false =>
      have ih := key_from hn hok L k (i + 1) (by omega) fun j hj => by
        by_cases h : j = i
        · rw [h]; exact g
        · exact hno j (by omega)
      rw [prv_succ hl] at ih
      exact ih
theorem key {r : Rul} {n : Nat} (hn : n ≤ 1000) (hok : r.Ok n) (L : List (List Int)) : r.broken L = dueR r L := by
  have z := key_from hn hok L L.length 0 (by omega) fun j hj => by omega
  rw [Mem_zero] at z
  exact z
end Fv
end
section
set_option maxHeartbeats 1000000
namespace Fv
def pickR : List (Nat → Bool) → Nat → Nat → Option Nat
  | [], _, _ => none
  | q :: r, j, i => if q j = true then some i else pickR r j (i + 1)
theorem pickR_snoc (q : Nat → Bool) (j : Nat) : ∀ (Q : List (Nat → Bool)) (i : Nat), pickR (Q ++ [q]) j i = match pickR Q j i with | some x => some x | none => if q j = true then some (i + Q.length) else none
  | [], i => rfl
  | p :: Q, i => by
    show (if p j = true then some i else pickR (Q ++ [q]) j (i + 1)) = match (if p j = true then some i else pickR Q j (i + 1)) with | some x => some x | none => _
    by_cases g : p j = true
    · rw [if_pos g, if_pos g]
    · rw [if_neg g, if_neg g, pickR_snoc q j Q (i + 1), List.length_cons, show i + 1 + Q.length = i + (Q.length + 1) from by omega]
def best (Q : List (Nat → Bool)) : Nat → Nat → Option (Int × Int)
  | _, 0 => none
  | a, k + 1 => match pickR Q a 0 with
    | some i => some ((a : Int), (i : Int))
    | none => best Q (a + 1) k
def earl (f : Option (Int × Int)) (p : Option Int) (row : Int) : Option (Int × Int) := match p with
  | none => f
  | some x => match f with
    | none => some (x, row)
    | some y => if x < y.1 then some (x, row) else some y
theorem best_ge {Q : List (Nat → Bool)} : ∀ {k a : Nat} {y : Int × Int}, best Q a k = some y → (a : Int) ≤ y.1
  | 0, _, _, h => by cases h
  | k + 1, a, y, h => by
    have h : (match pickR Q a 0 with | some i => some ((a : Int), (i : Int)) | none => best Q (a + 1) k) = some y := h
    cases e : pickR Q a 0 with
    | some i => rw [e] at h; cases h; exact Int.le_refl _
    | none =>
      rw [e] at h
      have := best_ge h
      omega
theorem best_snoc (Q : List (Nat → Bool)) (q : Nat → Bool) : ∀ (k a : Nat), best (Q ++ [q]) a k = earl (best Q a k) (fst q a k) (Q.length : Int)
  | 0, _ => rfl
  | k + 1, a => by
    have ih := best_snoc Q q k (a + 1)
    show (match pickR (Q ++ [q]) a 0 with | some i => some ((a : Int), (i : Int)) | none => best (Q ++ [q]) (a + 1) k) = earl (match pickR Q a 0 with | some i => some ((a : Int), (i : Int)) | none => best Q (a + 1) k) (if q a = true then some (a : Int) else fst q (a + 1) k) (Q.length : Int)
    rw [pickR_snoc, ih]
    cases e : pickR Q a 0 with
    | some i =>
      show some ((a : Int), (i : Int)) = earl (some ((a : Int), (i : Int))) _ _
      by_cases g : q a = true
      · rw [if_pos g]
        show _ = if (a : Int) < (a : Int) then _ else _
        rw [if_neg (Int.lt_irrefl _)]
      · rw [if_neg g]
        cases h : fst q (a + 1) k with
        | none => rfl
        | some p =>
          obtain ⟨z, rfl, h1, _⟩ := fst_some h
          show _ = if (z : Int) < (a : Int) then _ else _
          rw [if_neg (by omega)]
    | none =>
      by_cases g : q a = true
      · simp only [if_pos g]
        show some ((a : Int), ((0 + Q.length : Nat) : Int)) = _
        rw [Nat.zero_add]
        cases h : best Q (a + 1) k with
        | none => rfl
        | some y =>
          have := best_ge h
          show _ = if (a : Int) < y.1 then _ else _
          rw [if_pos (by omega)]
      · simp only [if_neg g]
theorem fst_snoc (P : Nat → Bool) : ∀ (n i : Nat), fst P i (n + 1) = match fst P i n with | some p => some p | none => if P (i + n) = true then some ((i + n : Nat) : Int) else none
  | 0, i => rfl
  | n + 1, i => by
    show (if P i = true then some (i : Int) else fst P (i + 1) (n + 1)) = match (if P i = true then some (i : Int) else fst P (i + 1) n) with | some p => some p | none => _
    by_cases g : P i = true
    · rw [if_pos g, if_pos g]
    · rw [if_neg g, if_neg g, fst_snoc P n (i + 1), show i + 1 + n = i + (n + 1) from by omega]
theorem Li.take {L : List (List Int)} {n : Nat} (h : Li L n) (m : Nat) : Li (L.take m) n := ⟨by rw [List.length_take]; have := h.len; omega, fun c hc => h.ok c (List.mem_of_mem_take hc)⟩
/-- a voice's note out of its range -/
def outB (lo hi : Int) (v : Nat) (L : List (List Int)) (j : Nat) : Bool := decide (nt (colAt L j) v < lo) || decide (hi < nt (colAt L j) v)
def qV (lo hi : Int) (v : Nat) (L : List (List Int)) (j : Nat) : Bool := if j < L.length then outB lo hi v L j else false
def qR (r : Rul) (L : List (List Int)) (j : Nat) : Bool := if j < L.length then lb r L j else opn r L
theorem fst_qV (lo hi : Int) (v : Nat) (L : List (List Int)) : fst (qV lo hi v L) 0 (L.length + 1) = fst (outB lo hi v L) 0 L.length := by
  rw [fst_snoc, Nat.zero_add]
  have e : qV lo hi v L L.length = false := if_neg (Nat.lt_irrefl _)
  have c : fst (qV lo hi v L) 0 L.length = fst (outB lo hi v L) 0 L.length := fst_congr fun j _ h _ => if_pos (by omega)
  rw [e, c]
  cases fst (outB lo hi v L) 0 L.length <;> rfl
theorem fst_qR (r : Rul) (L : List (List Int)) : fst (qR r L) 0 (L.length + 1) = dueR r L := by
  rw [fst_snoc, Nat.zero_add]
  have e : qR r L L.length = opn r L := if_neg (Nat.lt_irrefl _)
  have c : fst (qR r L) 0 L.length = fst (lb r L) 0 L.length := fst_congr fun j _ h _ => if_pos (by omega)
  rw [e, c]
  rfl
abbrev Rg := List (Int × Int)
def rgD (rg : Rg) : List D := rg.map fun p => .tup [.int p.1, .int p.2]
theorem rgD_len (rg : Rg) : (rgD rg).length = rg.length := List.length_map _
def rulD (rs : List Rul) : List D := rs.map Rul.d
theorem rulD_len (rs : List Rul) : (rulD rs).length = rs.length := List.length_map _
def rowsD (rs : List Rul) : List D := rs.map fun r => .lst (rowD r)
theorem rowsD_len (rs : List Rul) : (rowsD rs).length = rs.length := List.length_map _
theorem rgD_at {rg : Rg} {i : Nat} (h : i < rg.length) : (rgD rg)[i]? = some (.tup [.int rg[i].1, .int rg[i].2]) := by unfold rgD; rw [List.getElem?_map, List.getElem?_eq_getElem h]; rfl
theorem rulD_at {rg : List Rul} {i : Nat} (h : i < rg.length) : (rulD rg)[i]? = some rg[i].d := by unfold rulD; rw [List.getElem?_map, List.getElem?_eq_getElem h]; rfl
theorem rowsD_at {rg : List Rul} {i : Nat} (h : i < rg.length) : (rowsD rg)[i]? = some (.lst (rowD rg[i])) := by unfold rowsD; rw [List.getElem?_map, List.getElem?_eq_getElem h]; rfl
theorem rgD_snoc (rg : Rg) (p : Int × Int) : rgD rg ++ [.tup [.int p.1, .int p.2]] = rgD (rg ++ [p]) := by unfold rgD; rw [List.map_append]; rfl
theorem rulD_snoc (rg : List Rul) (p : Rul) : rulD rg ++ [p.d] = rulD (rg ++ [p]) := by unfold rulD; rw [List.map_append]; rfl
theorem rowsD_snoc (rg : List Rul) (p : Rul) : rowsD rg ++ [.lst (rowD p)] = rowsD (rg ++ [p]) := by unfold rowsD; rw [List.map_append]; rfl
def lo (rg : Rg) (i : Nat) : Int := (rg.getD i (0, 0)).1
def hi (rg : Rg) (i : Nat) : Int := (rg.getD i (0, 0)).2
theorem rg_at {rg : Rg} {i : Nat} (h : i < rg.length) : (rgD rg)[i]? = some (.tup [.int (lo rg i), .int (hi rg i)]) := by
  rw [rgD_at h]
  unfold lo hi
  rw [List.getD_eq_getElem?_getD, List.getElem?_eq_getElem h]
  rfl
def vRows (rg : Rg) (L : List (List Int)) (n : Nat) : List (Nat → Bool) := (List.range n).map fun i => qV (lo rg i) (hi rg i) i L
def rRows (rs : List Rul) (L : List (List Int)) : List (Nat → Bool) := rs.map fun r => qR r L
def allRows (rg : Rg) (rs : List Rul) (L : List (List Int)) : List (Nat → Bool) := vRows rg L rg.length ++ rRows rs L
theorem vRows_succ (rg : Rg) (L : List (List Int)) (n : Nat) : vRows rg L (n + 1) = vRows rg L n ++ [qV (lo rg n) (hi rg n) n L] := by
  unfold vRows
  rw [List.range_succ, List.map_append]
  rfl
theorem vRows_len (rg : Rg) (L : List (List Int)) (n : Nat) : (vRows rg L n).length = n := by unfold vRows; rw [List.length_map, List.length_range]
theorem rRows_succ (rs : List Rul) (L : List (List Int)) {i : Nat} (h : i < rs.length) : rRows (rs.take (i + 1)) L = rRows (rs.take i) L ++ [qR rs[i] L] := by
  unfold rRows
  rw [List.take_succ_eq_append_getElem h, List.map_append]
  rfl
/-- the fault of a line -/
def faultV (rg : Rg) (rs : List Rul) (L : List (List Int)) : Option (Int × Int) := best (allRows rg rs L) 0 (L.length + 1)
def oP : Option (Int × Int) → D
  | none => .non
  | some p => .tup [.int p.1, .int p.2]
theorem oP_none : oP none = .non := rfl
theorem oP_some {p : Int × Int} : oP (some p) = .tup [.int p.1, .int p.2] := rfl
/-- a score as the program has it -/
def scoD (rg : Rg) (rs : List Rul) : D := .ins "Score" ["ranges", "rules"] [.lst (rgD rg), .lst (rulD rs)]
/-- ranges of so many voices -/
structure RgOk2 (rg : Rg) : Prop where
  n1 : 1 ≤ rg.length
  n4 : rg.length ≤ 4
  le : ∀ p ∈ rg, p.1 ≤ p.2 ∧ p.2 - p.1 ≤ 1000 ∧ -200000000000000000000 ≤ p.1 ∧ p.1 ≤ 200000000000000000000
def widths : Rg → Int
  | [] => 1
  | p :: r => (p.2 - p.1 + 1) * widths r
end Fv
end
section
namespace Fv
theorem comp_row {Γ : Fns} {T : Sg} {v n : Nat} {q : Ex} {r : Rul} (hn : n ≤ 1000) (hok : r.Ok n) (hq : ∀ d r, biD .str [d] = .ok r → elt Γ q (T.set v (.fz d)) = .ok r.D) : compL (.one v) T (evT Γ (.cst (.bl true))) (elt Γ q) (rowD r) [] = .ok (strsD r.words) := by
  by_cases hf : r.flat = true
  · obtain ⟨h1, _, _⟩ := Rul.nums_ok hn hok hf
    rw [rowD_flat hf, Rul.words_eq hf]
    exact comp_words h1 hq
  · cases r with
    | every M R r =>
      obtain ⟨g1, g2, g3, g4, g5⟩ := every_words hn hok
      obtain ⟨h1, _, _⟩ := Rul.nums_ok hn g1 g2
      have sR : SmI R := by have := g4.2; unfold SmI at *; omega
      have z := compL_map (tg := .one v) (S := T) (c := evT Γ (.cst (.bl true))) (e := elt Γ q) (fun o : D × Tx => o.1) (fun o => D.str o.2) ((.str wEvery, wEvery) :: (.int M, itx M) :: (.int R, itx R) :: (.str r.kind, r.kind) :: r.nums.map fun i => (.int i, itx i)) [] fun x hx => by
        have hs : biD .str [x.1] = .ok (.d (.str x.2)) := by
          rcases List.mem_cons.mp hx with rfl | hx
          · rfl
          rcases List.mem_cons.mp hx with rfl | hx
          · exact bi_str_int (smi_bt g4.2)
          rcases List.mem_cons.mp hx with rfl | hx
          · exact bi_str_int (smi_bt sR)
          rcases List.mem_cons.mp hx with rfl | hx
          · rfl
          obtain ⟨i, hi, rfl⟩ := List.mem_map.mp hx
          exact bi_str_int (smi_bt (h1 i hi))
        exact ⟨_, rfl, by simp, hq _ _ hs⟩
      have hw : (Rul.every M R r).words = wEvery :: itx M :: itx R :: r.kind :: r.nums.map itx := by
        show wEvery :: itx M :: itx R :: r.words = _
        rw [Rul.words_eq g2]
      have hr : rowD (.every M R r) = .str wEvery :: .int M :: .int R :: kindD r.kind r.nums := rfl
      rw [hw, hr]
      unfold kindD intsD strsD
      simp only [List.map_cons, List.map_map, List.nil_append] at z ⊢
      exact z
    | _ => exact absurd rfl hf
def wVoice : Tx := [118, 111, 105, 99, 101]
def rangeW (p : Int × Int) : List Tx := [wVoice, itx p.1, itx p.2]
def rangeT (p : Int × Int) : Tx := TL.joinL [32] (rangeW p)
theorem rangeT_eq (a b : Int) : [118, 111, 105, 99, 101, 32] ++ itx a ++ [32] ++ itx b = rangeT (a, b) := by
  show _ = wVoice ++ ([32] ++ (itx a ++ ([32] ++ itx b)))
  simp [wVoice]
/-- a range that a text may tell -/
def RgOk (p : Int × Int) : Prop := SmI p.1 ∧ SmI p.2 ∧ p.1 ≤ p.2
theorem range_words {p : Int × Int} (h : RgOk p) : ∀ w ∈ rangeW p, wordOk w := fun w hw => by
  rcases List.mem_cons.mp hw with e | hw
  · rw [e]; exact ⟨by exact ⟨by decide, by decide⟩, by decide, by decide⟩
  · rcases List.mem_cons.mp hw with e | hw
    · rw [e]; exact itx_word h.1
    · rw [List.mem_singleton.mp hw]; exact itx_word h.2.1
theorem range_split {p : Int × Int} (h : RgOk p) : m1D .split (rangeT p) (.str [32]) = .ok (.fr (strsD (rangeW p))) := (split_words (range_words h) (show (3 : Nat) ≤ 1000 by decide) (by simp [rangeW])).1
theorem range_len {p : Int × Int} (h : RgOk p) : (rangeT p).length ≤ 42000 := (split_words (range_words h) (show (3 : Nat) ≤ 1000 by decide) (by simp [rangeW])).2
theorem words_ne (r : Rul) : r.words ≠ [] := by cases r <;> exact List.cons_ne_nil _ _
theorem rule_split {n : Nat} (hn : n ≤ 1000) {r : Rul} (h : r.Ok n) : m1D .split r.text (.str [32]) = .ok (.fr (strsD r.words)) := (split_words (all_words hn h).1 (Nat.le_trans (all_words hn h).2 (by decide)) (words_ne r)).1
theorem rule_len {n : Nat} (hn : n ≤ 1000) {r : Rul} (h : r.Ok n) : r.text.length ≤ 42000 := (split_words (all_words hn h).1 (Nat.le_trans (all_words hn h).2 (by decide)) (words_ne r)).2
theorem rule_join {n : Nat} (hn : n ≤ 1000) {r : Rul} (h : r.Ok n) : m1D .join [32] (.lst (strsD r.words)) = .ok (.d (.str r.text)) := join_words (all_words hn h).1 (Nat.le_trans (all_words hn h).2 (by decide))
theorem itx_no {i : Int} {c : Nat} (h : c = 10 ∨ c = 59) : c ∉ itx i := fun hc => by have := itx_sign hc; omega
theorem flat_no {c : Nat} (h : c = 10 ∨ c = 59) {k : Tx} {is : List Int} (hk : c ∉ k) (w : Tx) (hw : w ∈ k :: is.map itx) : c ∉ w := by
  rcases List.mem_cons.mp hw with e | hw
  · rw [e]; exact hk
  · obtain ⟨i, _, rfl⟩ := List.mem_map.mp hw
    exact itx_no h
theorem words_no {c : Nat} (h : c = 10 ∨ c = 59) : ∀ (r : Rul) (w : Tx), w ∈ r.words → c ∉ w
  | .every m a r, w, hw => by
    rcases List.mem_cons.mp hw with e | hw
    · rw [e]; rcases h with h | h <;> subst h <;> decide
    · rcases List.mem_cons.mp hw with e | hw
      · rw [e]; exact itx_no h
      · rcases List.mem_cons.mp hw with e | hw
        · rw [e]; exact itx_no h
        · exact words_no h r w hw
  | .span a b s, w, hw => flat_no (k := wSpan) h (by rcases h with h | h <;> subst h <;> decide) w hw
  | .clock a b m s, w, hw => flat_no (k := wClock) h (by rcases h with h | h <;> subst h <;> decide) w hw
  | .move v s, w, hw => flat_no (k := wMove) h (by rcases h with h | h <;> subst h <;> decide) w hw
  | .alike a b s, w, hw => flat_no (k := wAlike) h (by rcases h with h | h <;> subst h <;> decide) w hw
  | .back v d, w, hw => flat_no (k := wBack) h (by rcases h with h | h <;> subst h <;> decide) w hw
  | .held v m, w, hw => flat_no (k := wHeld) h (by rcases h with h | h <;> subst h <;> decide) w hw
  | .times v x lo hi, w, hw => flat_no (k := wTimes) h (by rcases h with h | h <;> subst h <;> decide) w hw
  | .begin v s, w, hw => flat_no (k := wBegin) h (by rcases h with h | h <;> subst h <;> decide) w hw
  | .close v s, w, hw => flat_no (k := wClose) h (by rcases h with h | h <;> subst h <;> decide) w hw
theorem rule_no {c : Nat} (h : c = 10 ∨ c = 59) (r : Rul) : c ∉ r.text := fun hc => by
  rcases joinL_in hc with hc | ⟨y, hy, hc⟩
  · rw [List.mem_singleton] at hc; omega
  · exact words_no h r y hy hc
theorem range_no {c : Nat} (h : c = 10 ∨ c = 59) (p : Int × Int) : c ∉ rangeT p := fun hc => by
  rcases joinL_in hc with hc | ⟨y, hy, hc⟩
  · rw [List.mem_singleton] at hc; omega
  · rcases List.mem_cons.mp hy with e | hy
    · rw [e] at hc
      revert hc
      rcases h with h | h <;> subst h <;> decide
    · rcases List.mem_cons.mp hy with e | hy
      · rw [e] at hc; exact itx_no h hc
      · rw [List.mem_singleton.mp hy] at hc; exact itx_no h hc
def rowsT (rg : Rg) (rs : List Rul) : List Tx := rg.map rangeT ++ rs.map Rul.text
def scoreT (rg : Rg) (rs : List Rul) : Tx := TL.joinL [10] (rowsT rg rs)
theorem rowsT_len (rg : Rg) (rs : List Rul) : (rowsT rg rs).length = rg.length + rs.length := by unfold rowsT; rw [List.length_append, List.length_map, List.length_map]
theorem rowsT_a {rg : Rg} {rs : List Rul} {i : Nat} (h : i < rg.length) : (rowsT rg rs)[i]? = some (rangeT rg[i]) := by
  unfold rowsT
  rw [List.getElem?_append_left (by rw [List.length_map]; exact h), List.getElem?_map, List.getElem?_eq_getElem h]
  rfl
theorem rowsT_b {rg : Rg} {rs : List Rul} {u : Nat} (h : u < rs.length) : (rowsT rg rs)[rg.length + u]? = some rs[u].text := by
  unfold rowsT
  rw [List.getElem?_append_right (by rw [List.length_map]; omega), List.length_map, Nat.add_sub_cancel_left, List.getElem?_map, List.getElem?_eq_getElem h]
  rfl
theorem rowsT_le {rg : Rg} {rs : List Rul} {n : Nat} (hn : n ≤ 1000) (hg : ∀ p ∈ rg, RgOk p) (hr : ∀ r ∈ rs, r.Ok n) : ∀ y ∈ rowsT rg rs, y.length ≤ 42000 := fun y hy => by
  rcases List.mem_append.mp hy with hy | hy
  · obtain ⟨p, hp, rfl⟩ := List.mem_map.mp hy
    exact range_len (hg p hp)
  · obtain ⟨r, h, rfl⟩ := List.mem_map.mp hy
    exact rule_len hn (hr r h)
theorem rowsT_no {c : Nat} (h : c = 10 ∨ c = 59) (rg : Rg) (rs : List Rul) : ∀ y ∈ rowsT rg rs, c ∉ y := fun y hy => by
  rcases List.mem_append.mp hy with hy | hy
  · obtain ⟨p, hp, rfl⟩ := List.mem_map.mp hy
    exact range_no h p
  · obtain ⟨r, hr, rfl⟩ := List.mem_map.mp hy
    exact rule_no h r
theorem score_join {rg : Rg} {rs : List Rul} {n : Nat} (hn : n ≤ 1000) (hg : ∀ p ∈ rg, RgOk p) (hr : ∀ r ∈ rs, r.Ok n) (hl : rg.length + rs.length ≤ 100) : m1D .join [10] (.lst (strsD (rowsT rg rs))) = .ok (.d (.str (scoreT rg rs))) :=
  m1_join (b := 42000) (rowsT_le hn hg hr) rfl (by rw [rowsT_len]; omega)
theorem score_split {rg : Rg} {rs : List Rul} {n : Nat} (hn : n ≤ 1000) (hg : ∀ p ∈ rg, RgOk p) (hr : ∀ r ∈ rs, r.Ok n) (hl : rg.length + rs.length ≤ 100) (hne : 1 ≤ rg.length + rs.length) : m1D .split (scoreT rg rs) (.str [10]) = .ok (.fr (strsD (rowsT rg rs))) :=
  m1_split (by decide) (fun e => by have := rowsT_len rg rs; rw [e] at this; simp at this; omega) (rowsT_no (.inl rfl) rg rs) (by
    have := joinL_len (ys := rowsT rg rs) (s := 10) (rowsT_le hn hg hr)
    rw [rowsT_len] at this
    show (TL.joinL [10] (rowsT rg rs)).length + 2 ≤ _
    omega)
def heavyR (rg : Rg) : Int := rg.foldl (fun a p => a * (p.2 - p.1 + 1)) 1
def weightV (rg : Rg) (rs : List Rul) : Int := rs.foldl (fun a r => a * r.size) (heavyR rg)
theorem heavyR_succ {rg : Rg} {i : Nat} (h : i < rg.length) : heavyR (rg.take (i + 1)) = heavyR (rg.take i) * (hi rg i - lo rg i + 1) := by
  unfold heavyR
  rw [List.take_succ_eq_append_getElem h, List.foldl_append]
  unfold lo hi
  rw [List.getD_eq_getElem?_getD, List.getElem?_eq_getElem h]
  rfl
theorem weightV_snoc (rg : Rg) (rs : List Rul) (r : Rul) : weightV rg (rs ++ [r]) = weightV rg rs * r.size := by
  unfold weightV
  rw [List.foldl_append]
  rfl
theorem size_pos {r : Rul} {n : Nat} (h : r.Ok n) : 1 ≤ r.size ∧ r.size ≤ 100000000000000000000000000000000000000000 := by
  have g : ∀ i, SmI i → i < 10000000000000000000000000000000000000000 := fun i h => by have h : i.natAbs < 10000000000000000000000000000000000000000 := h; omega
  cases r with
  | held v m => exact ⟨h.2.1, show m ≤ _ from by have := g _ h.2.2; omega⟩
  | times v x lo hi => exact ⟨show 1 ≤ hi + 1 from by have := h.2.2.2.1; omega, show hi + 1 ≤ _ from by have := g _ h.2.2.2.2; omega⟩
  | every m a r => cases r with
    | span c d s => exact ⟨h.1.1, show m ≤ _ from by have := g _ h.1.2; omega⟩
    | clock c d k s => exact ⟨h.1.1, show m ≤ _ from by have := g _ h.1.2; omega⟩
    | _ => cases h
  | back v d => exact ⟨show (1 : Int) ≤ 3 by decide, show (3 : Int) ≤ _ by decide⟩
  | _ => exact ⟨show (1 : Int) ≤ 1 by decide, show (1 : Int) ≤ _ by decide⟩
theorem mul_ge {a b : Int} (ha : 1 ≤ a) (hb : 1 ≤ b) : a ≤ a * b ∧ b ≤ a * b ∧ 1 ≤ a * b := by
  have h1 : a * 1 ≤ a * b := Int.mul_le_mul_of_nonneg_left hb (by omega)
  have h2 : 1 * b ≤ a * b := Int.mul_le_mul_of_nonneg_right ha (by omega)
  omega
theorem lohi {rg : Rg} {i : Nat} (h : i < rg.length) (hg : ∀ p ∈ rg, RgOk p) : SmI (lo rg i) ∧ SmI (hi rg i) ∧ lo rg i ≤ hi rg i := by
  have g := hg _ (List.getElem_mem h)
  unfold lo hi
  rw [List.getD_eq_getElem?_getD, List.getElem?_eq_getElem h]
  exact g
theorem heavyR_pos {rg : Rg} (hg : ∀ p ∈ rg, RgOk p) : ∀ i, i ≤ rg.length → 1 ≤ heavyR (rg.take i)
  | 0, _ => by rw [List.take_zero]; exact Int.le_refl _
  | i + 1, h => by
    have h1 := heavyR_pos hg i (by omega)
    rw [heavyR_succ (by omega)]
    have := lohi (show i < rg.length by omega) hg
    exact (mul_ge h1 (by omega)).2.2
theorem heavyR_up {rg : Rg} (hg : ∀ p ∈ rg, RgOk p) : ∀ d i, i + d = rg.length → heavyR (rg.take i) ≤ heavyR rg
  | 0, i, h => by rw [List.take_of_length_le (by omega)]; exact Int.le_refl _
  | d + 1, i, h => by
    have h1 := heavyR_up hg d (i + 1) (by omega)
    rw [heavyR_succ (by omega)] at h1
    have := lohi (show i < rg.length by omega) hg
    have := (mul_ge (heavyR_pos hg i (by omega)) (show 1 ≤ hi rg i - lo rg i + 1 by omega)).1
    omega
theorem heavyR_fac {rg : Rg} (hg : ∀ p ∈ rg, RgOk p) {i : Nat} (h : i < rg.length) : hi rg i - lo rg i + 1 ≤ heavyR rg := by
  have h1 := heavyR_up hg (rg.length - (i + 1)) (i + 1) (by omega)
  rw [heavyR_succ h] at h1
  have := lohi h hg
  have := (mul_ge (heavyR_pos hg i (by omega)) (show 1 ≤ hi rg i - lo rg i + 1 by omega)).2.1
  omega
theorem weightV_succ (rg : Rg) {rs : List Rul} {i : Nat} (h : i < rs.length) : weightV rg (rs.take (i + 1)) = weightV rg (rs.take i) * rs[i].size := by
  rw [List.take_succ_eq_append_getElem h, weightV_snoc]
theorem weightV_pos {rg : Rg} {rs : List Rul} {n : Nat} (hg : ∀ p ∈ rg, RgOk p) (hr : ∀ r ∈ rs, r.Ok n) : ∀ i, i ≤ rs.length → 1 ≤ weightV rg (rs.take i)
  | 0, _ => by
    have := heavyR_pos hg rg.length (Nat.le_refl _)
    rw [List.take_length] at this
    exact this
  | i + 1, h => by
    have h1 := weightV_pos hg hr i (by omega)
    rw [weightV_succ rg (by omega)]
    exact (mul_ge h1 (size_pos (hr _ (List.getElem_mem _))).1).2.2
theorem weightV_up {rg : Rg} {rs : List Rul} {n : Nat} (hg : ∀ p ∈ rg, RgOk p) (hr : ∀ r ∈ rs, r.Ok n) : ∀ d i, i + d = rs.length → weightV rg (rs.take i) ≤ weightV rg rs
  | 0, i, h => by rw [List.take_of_length_le (by omega)]; exact Int.le_refl _
  | d + 1, i, h => by
    have h1 := weightV_up hg hr d (i + 1) (by omega)
    rw [weightV_succ rg (by omega)] at h1
    have := (mul_ge (weightV_pos hg hr i (by omega)) (size_pos (hr _ (List.getElem_mem (show i < rs.length by omega)))).1).1
    omega
theorem heavyR_weight {rg : Rg} {rs : List Rul} {n : Nat} (hg : ∀ p ∈ rg, RgOk p) (hr : ∀ r ∈ rs, r.Ok n) : heavyR rg ≤ weightV rg rs := weightV_up hg hr rs.length 0 (by omega)
theorem clb_rgD (rg : Rg) : clb (.lst (rgD rg)) = true := by
  show (rgD rg).all (D.cl 4) = true
  rw [List.all_eq_true]
  intro x hx
  obtain ⟨c, _, rfl⟩ := List.mem_map.mp hx
  rfl
theorem eq_rg_nil {rg : Rg} (h : 1 ≤ rg.length) : cmpD .eq (.lst (rgD rg)) (.lst []) = .ok false := by
  rw [eq_lst (clb_rgD rg) rfl]
  congr 1
  rw [decide_eq_false_iff_not]
  intro e
  cases rg with
  | nil => exact absurd h (by decide)
  | cons a r => cases e
theorem kind_voice (r : Rul) : decide (r.kind = wVoice) = false := by cases r <;> rfl
theorem words_0 (r : Rul) : subD (.lst (strsD r.words)) (.int 0) = .ok (.str r.kind) := by cases r <;> exact sub_lst (i := 0) rfl
theorem row_len {r : Rul} {n : Nat} (hn : n ≤ 1000) (hok : r.Ok n) : (rowD r).length ≤ 1000 := by
  by_cases hf : r.flat = true
  · obtain ⟨_, h2, _⟩ := Rul.nums_ok hn hok hf
    rw [rowD_flat hf, kindD_len]; omega
  · cases r with
    | every M R r =>
      obtain ⟨g1, g2, _⟩ := every_words hn hok
      obtain ⟨_, h2, _⟩ := Rul.nums_ok hn g1 g2
      show (D.str wEvery :: .int M :: .int R :: kindD r.kind r.nums).length ≤ 1000
      rw [List.length_cons, List.length_cons, List.length_cons, kindD_len]; omega
    | _ => exact absurd rfl hf
theorem rule_pl {n : Nat} (hn : n ≤ 1000) {r : Rul} (h : r.Ok n) : Pl 16777216 r.text := by
  refine ⟨List.all_eq_true.mpr fun c hc => ?_, by have := rule_len hn h; omega⟩
  rcases joinL_in hc with hc | ⟨y, hy, hc⟩
  · rw [List.mem_singleton.mp hc]; rfl
  · exact List.all_eq_true.mp ((all_words hn h).1 y hy).1.1 c hc
theorem rule_ne (r : Rul) : r.text ≠ [] := fun h => by
  have k0 : r.kind ≠ [] := by cases r <;> exact List.cons_ne_nil _ _
  have : ∃ t, r.words = r.kind :: t := by cases r <;> exact ⟨_, rfl⟩
  obtain ⟨t, ht⟩ := this
  unfold Rul.text at h
  rw [ht] at h
  cases t with
  | nil => exact k0 h
  | cons a t => exact k0 (List.append_eq_nil_iff.mp (show r.kind ++ ([32] ++ TL.joinL [32] (a :: t)) = [] from h)).1
end Fv
end
section
set_option maxHeartbeats 4000000
namespace Lk04
open Fv PySem PySem.Spec PyProof.Rows L2
def top (i : Nat) : Stmt := PySem.Challenge.pw_fourvoices_k04_lines_refused.main.body.getD i (.Pass ⟨0, 0, 0, 0⟩)
def mth (i j : Nat) : Stmt := (C8.clsBody (top i)).getD j (.Pass ⟨0, 0, 0, 0⟩)
def xsL : List String := ["BadLine"]
def xnL : List String := ["Apart", "BadRow", "Crowded", "Endless", "NoLine", "NoName", "NoNumber", "NoRow", "ScoreError", "TooWide", "Unfit", "Unlike", "ValueError"]
def b_l_stirred_0 : Sms := (.cons (.setT [5, 6] (.bi .divmod (.cons (.var 3) (.cons (.cst (.int 4099)) .nil)))) (.cons (.set 3 (.bin .mod (.bin .add (.bin .add (.bin .add (.bin .mul (.var 6) (.cst (.int 240007))) (.bin .mul (.var 5) (.cst (.int 89)))) (.bin .mul (.cst (.int 1201)) (.var 4))) (.cst (.int 11))) (.cst (.int 998244353)))) (.cons (.set 2 (.bin .add (.bin .mul (.var 2) (.cst (.int 998244353))) (.var 3))) .nil)))
def a_l_stirred : Df := ⟨2, 7, [], (.cons (.set 2 (.cst (.int 0))) (.cons (.set 3 (.bin .add (.bin .mod (.bin .add (.bin .mod (.var 0) (.cst (.int 998244341))) (.bin .mul (.cst (.int 7919)) (.var 1))) (.cst (.int 998244353))) (.cst (.int 3)))) (.cons (.for_ (.one 4) (.rng (.cst (.int 4))) b_l_stirred_0) (.cons (.ret (.var 2)) .nil))))⟩
def n_l_stirred : List Str := ["_law_cell", "_law_place", "_law_found", "_law_rest", "_law_turn", "_law_upper", "_law_lower"]
def p_l_stirred : List Str := ["_law_cell", "_law_place"]
def c_l_stirred : Ck := ⟨n_l_stirred, defScope (top 22), defScope (top 22), [], ["divmod", "range"], [], [], [], [], [], [], [], []⟩
theorem e_l_stirred : embSs c_l_stirred a_l_stirred.body (defBody (top 22)) = true := by decide +kernel
theorem s_l_stirred : FnScope n_l_stirred p_l_stirred (defScope (top 22)) := C8.fnScope_by (by decide +kernel)
def b_l_got_0 : Sms := (.cons (.set 3 (.bin .mul (.var 3) (.bin .pow (.cst (.int 10)) (.cst (.int 6))))) .nil)
def b_l_got_1 : Sms := (.cons (.set 3 (.cst (.int 1))) (.cons (.whl (.cmp .le (.var 3) (.bi .abs (.cons (.var 2) .nil))) b_l_got_0) (.cons (.ret (.bin .add (.bi .abs (.cons (.var 2) .nil)) (.bin .mul (.var 3) (.call "_law_stirred" (.cons (.bi .abs (.cons (.var 2) .nil)) (.cons (.var 1) .nil)))))) .nil)))
def a_l_got : Df := ⟨2, 4, [], (.cons (.for_ (.one 2) (.seq (.slc (.var 0) (.var 1) (.bin .add (.var 1) (.cst (.int 1))))) b_l_got_1) (.cons (.ret (.cst (.int 0))) .nil))⟩
def n_l_got : List Str := ["_law_script", "_law_place", "_law_cell", "_law_power"]
def p_l_got : List Str := ["_law_script", "_law_place"]
def c_l_got : Ck := ⟨n_l_got, defScope (top 23), defScope (top 23), [], ["abs"], [("_law_stirred", 2)], [], [], [], [], [], [], []⟩
theorem e_l_got : embSs c_l_got a_l_got.body (defBody (top 23)) = true := by decide +kernel
theorem s_l_got : FnScope n_l_got p_l_got (defScope (top 23)) := C8.fnScope_by (by decide +kernel)
def q_l_cells_0 : Ex := .call "_law_got" (.cons (.var 0) (.cons (.var 3) .nil))
def a_l_cells : Df := ⟨3, 4, [], (.cons (.ret (.lc [("_law_k", 3)] (.one 3) (.rng2 (.var 1) (.bi .min2 (.cons (.var 2) (.cons (.bi .len (.cons (.var 0) .nil)) .nil)))) (.cst (.bl true)) q_l_cells_0)) .nil)⟩
def n_l_cells : List Str := ["_law_script", "_law_first", "_law_last", "_law_k"]
def p_l_cells : List Str := ["_law_script", "_law_first", "_law_last"]
def c_l_cells : Ck := ⟨n_l_cells, defScope (top 24), defScope (top 24), [], ["len", "min", "range"], [("_law_got", 2)], [], [], [], [], [], [], []⟩
theorem e_l_cells : embSs c_l_cells a_l_cells.body (defBody (top 24)) = true := by decide +kernel
theorem s_l_cells : FnScope n_l_cells p_l_cells (defScope (top 24)) := C8.fnScope_by (by decide +kernel)
def a_l_note : Df := ⟨1, 1, [], (.cons (.ifs (.cmp .eq (.bin .mod (.var 0) (.cst (.int 5))) (.cst (.int 1))) (.cons (.ret (.cst (.str [46]))) .nil) .nil) (.cons (.ifs (.cmp .eq (.bin .mod (.var 0) (.cst (.int 5))) (.cst (.int 2))) (.cons (.ret (.bi .str (.cons (.bin .add (.bin .pow (.cst (.int 10)) (.cst (.int 39))) (.bin .mod (.bin .fdiv (.var 0) (.cst (.int 5))) (.bin .pow (.cst (.int 10)) (.cst (.int 30))))) .nil))) .nil) .nil) (.cons (.ret (.bi .str (.cons (.bin .sub (.bin .mod (.bin .fdiv (.var 0) (.cst (.int 5))) (.cst (.int 199))) (.cst (.int 99))) .nil))) .nil)))⟩
def n_l_note : List Str := ["_law_cell"]
def p_l_note : List Str := ["_law_cell"]
def c_l_note : Ck := ⟨n_l_note, defScope (top 26), defScope (top 26), [], ["str"], [], [], [], [], [], [], [], []⟩
theorem e_l_note : embSs c_l_note a_l_note.body (defBody (top 26)) = true := by decide +kernel
theorem s_l_note : FnScope n_l_note p_l_note (defScope (top 26)) := C8.fnScope_by (by decide +kernel)
def a_l_sign : Df := ⟨1, 2, [], (.cons (.set 1 (.cst (.str [122, 121, 120, 119, 118, 117, 116, 115, 114, 113, 112, 111, 110, 109, 108, 107, 106, 105, 104, 103, 102, 101, 100, 99, 98, 97, 57, 56, 55, 54, 53, 52, 51, 50, 49, 48, 45, 46, 44, 90, 89, 88, 87, 86, 85, 84, 83, 82, 81, 80, 79, 78, 77, 76, 75, 74, 73, 72, 71, 70, 69, 68, 67, 66, 65]))) (.cons (.set 1 (.bin .add (.var 1) (.cst (.str [32, 43, 95, 42, 47, 61, 60, 62, 40, 41, 91, 93, 123, 125, 124, 126, 94, 38, 35, 64, 33, 63, 59, 58, 39, 34, 36, 92, 10, 96])))) (.cons (.ret (.sub (.var 1) (.bin .mod (.var 0) (.bi .len (.cons (.var 1) .nil))))) .nil)))⟩
def n_l_sign : List Str := ["_law_cell", "_law_some"]
def p_l_sign : List Str := ["_law_cell"]
def c_l_sign : Ck := ⟨n_l_sign, defScope (top 25), defScope (top 25), [], ["len"], [], [], [], [], [], [], [], []⟩
theorem e_l_sign : embSs c_l_sign a_l_sign.body (defBody (top 25)) = true := by decide +kernel
theorem s_l_sign : FnScope n_l_sign p_l_sign (defScope (top 25)) := C8.fnScope_by (by decide +kernel)
def a_l_bad_note : Df := ⟨1, 3, [], (.cons (.set 1 (.bin .mod (.var 0) (.cst (.int 6)))) (.cons (.set 2 (.bi .str (.cons (.bin .mod (.bin .fdiv (.var 0) (.cst (.int 6))) (.cst (.int 100))) .nil))) (.cons (.ifs (.cmp .eq (.var 1) (.cst (.int 0))) (.cons (.ret (.bin .mul (.cst (.str [49])) (.cst (.int 41)))) .nil) .nil) (.cons (.ifs (.cmp .eq (.var 1) (.cst (.int 1))) (.cons (.ret (.bin .add (.cst (.str [48])) (.var 2))) .nil) .nil) (.cons (.ifs (.cmp .eq (.var 1) (.cst (.int 2))) (.cons (.ret (.sub (.lst (.cons (.cst (.str [45, 48])) (.cons (.cst (.str [45])) (.cons (.cst (.str [45, 45, 49])) (.cons (.cst (.str [43, 49])) (.cons (.cst (.str [46, 46])) (.cons (.cst (.str [49, 46, 48])) .nil))))))) (.bin .mod (.bin .fdiv (.var 0) (.cst (.int 6))) (.cst (.int 6))))) .nil) .nil) (.cons (.ifs (.cmp .eq (.var 1) (.cst (.int 3))) (.cons (.ret (.call "_law_sign" (.cons (.bin .fdiv (.var 0) (.cst (.int 6))) .nil))) .nil) .nil) (.cons (.ifs (.cmp .eq (.var 1) (.cst (.int 4))) (.cons (.ret (.bin .add (.bin .add (.slcH (.var 2) (.cst (.int 1))) (.sub (.cst (.str [32, 44, 46, 45, 10])) (.bin .mod (.bin .fdiv (.var 0) (.cst (.int 600))) (.cst (.int 5))))) (.slcL (.var 2) (.cst (.int 1))))) .nil) .nil) (.cons (.ret (.cst (.str []))) .nil))))))))⟩
def n_l_bad_note : List Str := ["_law_cell", "_law_way", "_law_note_here"]
def p_l_bad_note : List Str := ["_law_cell"]
def c_l_bad_note : Ck := ⟨n_l_bad_note, defScope (top 27), defScope (top 27), [], ["str"], [("_law_sign", 1)], [], [], [], [], [], [], []⟩
theorem e_l_bad_note : embSs c_l_bad_note a_l_bad_note.body (defBody (top 27)) = true := by decide +kernel
theorem s_l_bad_note : FnScope n_l_bad_note p_l_bad_note (defScope (top 27)) := C8.fnScope_by (by decide +kernel)
def b_l_piece_0 : Sms := (.cons (.app 3 (.call "_law_note" (.cons (.bin .add (.bin .mod (.bin .mul (.var 0) (.cst (.int 48271))) (.cst (.int 1000003))) (.bin .mul (.bin .mod (.bin .mul (.var 0) (.bin .add (.var 4) (.cst (.int 1)))) (.cst (.int 9973))) (.cst (.int 1009)))) .nil))) .nil)
def a_l_piece : Df := ⟨3, 6, [], (.cons (.set 3 (.lst .nil)) (.cons (.for_ (.one 4) (.rng (.var 1)) b_l_piece_0) (.cons (.set 5 (.bin .mod (.var 0) (.cst (.int 4)))) (.cons (.ifs (.and (.var 2) (.cmp .eq (.var 5) (.cst (.int 0)))) (.cons (.set 3 (.slcL (.var 3) (.cst (.int 1)))) .nil) .nil) (.cons (.ifs (.and (.var 2) (.cmp .eq (.var 5) (.cst (.int 1)))) (.cons (.set 3 (.bin .add (.var 3) (.lst (.cons (.cst (.str [49])) .nil)))) .nil) .nil) (.cons (.ifs (.and (.var 2) (.cmp .gt (.var 5) (.cst (.int 1)))) (.cons (.put 3 (.bin .mod (.bin .fdiv (.var 0) (.cst (.int 4))) (.var 1)) (.call "_law_bad_note" (.cons (.bin .mod (.bin .fdiv (.var 0) (.cst (.int 16))) (.bin .pow (.cst (.int 10)) (.cst (.int 9)))) .nil))) .nil) .nil) (.cons (.ret (.m1 .join (.cst (.str [44])) (.var 3))) .nil)))))))⟩
def n_l_piece : List Str := ["_law_cell", "_law_voices", "_law_bad", "_law_notes", "_law_k", "_law_way"]
def p_l_piece : List Str := ["_law_cell", "_law_voices", "_law_bad"]
def c_l_piece : Ck := ⟨n_l_piece, defScope (top 28), defScope (top 28), [], ["range"], [("_law_note", 1), ("_law_bad_note", 1)], [], [], [], [], [], [], []⟩
theorem e_l_piece : embSs c_l_piece a_l_piece.body (defBody (top 28)) = true := by decide +kernel
theorem s_l_piece : FnScope n_l_piece p_l_piece (defScope (top 28)) := C8.fnScope_by (by decide +kernel)
def b_l_text_0 : Sms := (.cons (.set 7 (.or (.and (.cmp .eq (.var 3) (.cst (.int 1))) (.cmp .eq (.var 6) (.var 4))) (.or (.and (.cmp .eq (.var 3) (.cst (.int 2))) (.cmp .eq (.var 6) (.bin .sub (.bi .len (.cons (.var 2) .nil)) (.cst (.int 1))))) (.and (.cmp .eq (.var 3) (.cst (.int 3))) (.cmp .eq (.bin .mod (.bin .fdiv (.sub (.var 2) (.var 6)) (.cst (.int 7))) (.cst (.int 3))) (.cst (.int 1))))))) (.cons (.app 5 (.call "_law_piece" (.cons (.sub (.var 2) (.var 6)) (.cons (.var 1) (.cons (.var 7) .nil))))) .nil))
def a_l_text : Df := ⟨1, 8, [], (.cons (.set 1 (.bin .add (.cst (.int 1)) (.bin .mod (.call "_law_got" (.cons (.var 0) (.cons (.cst (.int 0)) .nil))) (.cst (.int 4))))) (.cons (.set 2 (.call "_law_cells" (.cons (.var 0) (.cons (.cst (.int 1)) (.cons (.cst (.int 41)) .nil))))) (.frz 2 (.cons (.set 3 (.bin .mod (.bin .fdiv (.call "_law_got" (.cons (.var 0) (.cons (.cst (.int 0)) .nil))) (.cst (.int 4))) (.cst (.int 4)))) (.cons (.set 4 (.bin .mod (.bin .fdiv (.call "_law_got" (.cons (.var 0) (.cons (.cst (.int 0)) .nil))) (.cst (.int 16))) (.bi .max2 (.cons (.cst (.int 1)) (.cons (.bi .len (.cons (.var 2) .nil)) .nil))))) (.cons (.set 5 (.lst .nil)) (.cons (.for_ (.one 6) (.rng (.bi .len (.cons (.var 2) .nil))) b_l_text_0) (.cons (.ret (.m1 .join (.cst (.str [32])) (.var 5))) .nil))))))))⟩
def n_l_text : List Str := ["_law_script", "_law_voices", "_law_cells_here", "_law_way", "_law_at", "_law_pieces", "_law_k", "_law_bad"]
def p_l_text : List Str := ["_law_script"]
def c_l_text : Ck := ⟨n_l_text, defScope (top 29), defScope (top 29), [], ["len", "max", "range"], [("_law_got", 2), ("_law_cells", 3), ("_law_piece", 3)], [], [], [], [], [], [], []⟩
theorem e_l_text : embSs c_l_text a_l_text.body (defBody (top 29)) = true := by decide +kernel
theorem s_l_text : FnScope n_l_text p_l_text (defScope (top 29)) := C8.fnScope_by (by decide +kernel)
def b_l_number_0 : Sms := (.cons (.ifs (.cmp .nin (.var 2) (.cst (.str [48, 49, 50, 51, 52, 53, 54, 55, 56, 57]))) (.cons (.ret (.cst .non)) .nil) .nil) .nil)
def a_l_number : Df := ⟨1, 3, [], (.cons (.set 1 (.var 0)) (.frz 1 (.cons (.ifs (.cmp .eq (.slcH (.var 0) (.cst (.int 1))) (.cst (.str [45]))) (.cons (.set 1 (.slcL (.var 0) (.cst (.int 1)))) (.frz 1 .nil)) .nil) (.cons (.ifs (.or (.cmp .lt (.bi .len (.cons (.var 1) .nil)) (.cst (.int 1))) (.cmp .gt (.bi .len (.cons (.var 1) .nil)) (.cst (.int 40)))) (.cons (.ret (.cst .non)) .nil) .nil) (.cons (.for_ (.one 2) (.seq (.var 1)) b_l_number_0) (.cons (.ifs (.and (.cmp .eq (.sub (.var 1) (.cst (.int 0))) (.cst (.str [48]))) (.cmp .ne (.var 0) (.cst (.str [48])))) (.cons (.ret (.cst .non)) .nil) .nil) (.cons (.ret (.bi .int (.cons (.var 0) .nil))) .nil)))))))⟩
def n_l_number : List Str := ["_law_word", "_law_figures", "_law_sign_here"]
def p_l_number : List Str := ["_law_word"]
def c_l_number : Ck := ⟨n_l_number, defScope (top 30), defScope (top 30), [], ["int", "len"], [], [], [], [], [], [], [], []⟩
theorem e_l_number : embSs c_l_number a_l_number.body (defBody (top 30)) = true := by decide +kernel
theorem s_l_number : FnScope n_l_number p_l_number (defScope (top 30)) := C8.fnScope_by (by decide +kernel)
def b_l_column_0 : Sms := (.cons (.ifs (.cmp .eq (.var 4) (.cst (.str [46]))) (.cons (.app 3 (.cst .non)) .nil) (.cons (.app 3 (.call "_law_number" (.cons (.var 4) .nil))) (.cons (.ifs (.cmp .is (.sub (.var 3) (.neg (.cst (.int 1)))) (.cst .non)) (.cons (.ret (.cst .non)) .nil) .nil) .nil))) .nil)
def a_l_column : Df := ⟨2, 5, [], (.cons (.set 2 (.m1 .split (.var 0) (.cst (.str [44])))) (.frz 2 (.cons (.ifs (.cmp .ne (.bi .len (.cons (.var 2) .nil)) (.var 1)) (.cons (.ret (.cst .non)) .nil) .nil) (.cons (.set 3 (.lst .nil)) (.cons (.for_ (.one 4) (.seq (.var 2)) b_l_column_0) (.cons (.ret (.bi .tuple (.cons (.var 3) .nil))) .nil))))))⟩
def n_l_column : List Str := ["_law_piece_here", "_law_voices", "_law_parts", "_law_column_here", "_law_part"]
def p_l_column : List Str := ["_law_piece_here", "_law_voices"]
def c_l_column : Ck := ⟨n_l_column, defScope (top 31), defScope (top 31), [], ["len", "tuple"], [("_law_number", 1)], [], [], [], [], [], [], []⟩
theorem e_l_column : embSs c_l_column a_l_column.body (defBody (top 31)) = true := by decide +kernel
theorem s_l_column : FnScope n_l_column p_l_column (defScope (top 31)) := C8.fnScope_by (by decide +kernel)
def b_is_number_0 : Sms := (.cons (.ifs (.cmp .nin (.var 2) (.cst (.str [48, 49, 50, 51, 52, 53, 54, 55, 56, 57]))) (.cons (.ret (.cst (.bl false))) .nil) .nil) .nil)
def a_is_number : Df := ⟨1, 3, [], (.cons (.set 1 (.var 0)) (.frz 1 (.cons (.ifs (.cmp .eq (.slcH (.var 0) (.cst (.int 1))) (.cst (.str [45]))) (.cons (.set 1 (.slcL (.var 0) (.cst (.int 1)))) (.frz 1 (.cons (.ifs (.cmp .eq (.var 1) (.cst (.str [48]))) (.cons (.ret (.cst (.bl false))) .nil) .nil) .nil))) .nil) (.cons (.ifs (.or (.cmp .eq (.var 1) (.cst (.str []))) (.cmp .gt (.bi .len (.cons (.var 1) .nil)) (.cst (.int 40)))) (.cons (.ret (.cst (.bl false))) .nil) .nil) (.cons (.ifs (.and (.cmp .eq (.sub (.var 1) (.cst (.int 0))) (.cst (.str [48]))) (.cmp .gt (.bi .len (.cons (.var 1) .nil)) (.cst (.int 1)))) (.cons (.ret (.cst (.bl false))) .nil) .nil) (.cons (.for_ (.one 2) (.seq (.var 1)) b_is_number_0) (.cons (.ret (.cst (.bl true))) .nil)))))))⟩
def n_is_number : List Str := ["word", "figures", "sign"]
def p_is_number : List Str := ["word"]
def c_is_number : Ck := ⟨n_is_number, defScope (top 17), defScope (top 17), [("FIGURES", .str "0123456789"), ("MOST", .int 40)], ["len"], [], [], [], [], [], [], [], []⟩
theorem e_is_number : embSs c_is_number a_is_number.body (defBody (top 17)) = true := by decide +kernel
theorem s_is_number : FnScope n_is_number p_is_number (defScope (top 17)) := C8.fnScope_by (by decide +kernel)
def b_read_column_0 : Sms := (.cons (.ifs (.cmp .eq (.var 3) (.cst (.str [46]))) (.cons (.app 2 (.cst .non)) .nil) (.cons (.ifs (.call "is_number" (.cons (.var 3) .nil)) (.cons (.app 2 (.bi .int (.cons (.var 3) .nil))) .nil) (.cons (.ret (.cst .non)) .nil)) .nil)) .nil)
def a_read_column : Df := ⟨2, 4, [], (.cons (.set 2 (.lst .nil)) (.cons (.for_ (.one 3) (.seq (.m1 .split (.var 0) (.cst (.str [44])))) b_read_column_0) (.cons (.ifs (.cmp .ne (.bi .len (.cons (.var 2) .nil)) (.var 1)) (.cons (.ret (.cst .non)) .nil) .nil) (.cons (.ret (.bi .tuple (.cons (.var 2) .nil))) .nil))))⟩
def n_read_column : List Str := ["word", "voices", "column", "part"]
def p_read_column : List Str := ["word", "voices"]
def c_read_column : Ck := ⟨n_read_column, defScope (top 19), defScope (top 19), [], ["int", "len", "tuple"], [("is_number", 1)], [], [], [], [], [], [], []⟩
theorem e_read_column : embSs c_read_column a_read_column.body (defBody (top 19)) = true := by decide +kernel
theorem s_read_column : FnScope n_read_column p_read_column (defScope (top 19)) := C8.fnScope_by (by decide +kernel)
def b_read_line_0 : Sms := (.cons (.set 4 (.call "read_column" (.cons (.var 3) (.cons (.var 1) .nil)))) (.frz 4 (.cons (.ifs (.cmp .is (.var 4) (.cst .non)) (.cons (.rse "BadLine" (.cons (.bi .len (.cons (.var 2) .nil)) .nil)) .nil) .nil) (.cons (.app 2 (.var 4)) .nil))))
def a_read_line : Df := ⟨2, 5, [], (.cons (.ifs (.cmp .eq (.var 0) (.cst (.str []))) (.cons (.ret (.lst .nil)) .nil) .nil) (.cons (.set 2 (.lst .nil)) (.cons (.for_ (.one 3) (.seq (.m1 .split (.var 0) (.cst (.str [32])))) b_read_line_0) (.cons (.ret (.var 2)) .nil))))⟩
def n_read_line : List Str := ["text", "voices", "line", "word", "column"]
def p_read_line : List Str := ["text", "voices"]
def c_read_line : Ck := ⟨n_read_line, defScope (top 20), defScope (top 20), [], ["len"], [("read_column", 2)], [], [], [], [], xsL, xnL, [("BadLine", 1)]⟩
theorem e_read_line : embSs c_read_line a_read_line.body (defBody (top 20)) = true := by decide +kernel
theorem s_read_line : FnScope n_read_line p_read_line (defScope (top 20)) := C8.fnScope_by (by decide +kernel)
def a_l_refusal : Df := ⟨2, 3, [], (.cons (.ifs (.or (.nt (.isx ["BadLine"] (.var 0) "ScoreError")) (.nt (.isx ["BadLine"] (.var 0) "ValueError"))) (.cons (.ret (.cst (.bl false))) .nil) .nil) (.cons (.set 2 (.lst (.cons (.isx ["BadLine"] (.var 0) "BadRow") (.cons (.isx ["BadLine"] (.var 0) "Unlike") (.cons (.isx ["BadLine"] (.var 0) "Unfit") (.cons (.isx ["BadLine"] (.var 0) "NoLine") .nil)))))) (.frz 2 (.cons (.set 2 (.bin .add (.var 2) (.lst (.cons (.isx ["BadLine"] (.var 0) "Apart") (.cons (.isx ["BadLine"] (.var 0) "Crowded") (.cons (.isx ["BadLine"] (.var 0) "Endless") (.cons (.isx ["BadLine"] (.var 0) "NoName") .nil))))))) (.frz 2 (.cons (.ifs (.bi .any (.cons (.bin .add (.var 2) (.lst (.cons (.isx ["BadLine"] (.var 0) "NoNumber") (.cons (.isx ["BadLine"] (.var 0) "NoRow") (.cons (.isx ["BadLine"] (.var 0) "TooWide") .nil))))) .nil)) (.cons (.ret (.cst (.bl false))) .nil) .nil) (.cons (.ret (.and (.isa (.xfl ["BadLine"] (.var 0) "place") "int") (.and (.nt (.isa (.xfl ["BadLine"] (.var 0) "place") "bool")) (.cmp .eq (.xfl ["BadLine"] (.var 0) "place") (.var 1))))) .nil)))))))⟩
def n_l_refusal : List Str := ["_law_e", "_law_place", "_law_others"]
def p_l_refusal : List Str := ["_law_e", "_law_place"]
def c_l_refusal : Ck := ⟨n_l_refusal, defScope (top 32), defScope (top 32), [], ["any", "bool", "int", "isinstance"], [], [], [], [], [], xsL, xnL, []⟩
theorem e_l_refusal : embSs c_l_refusal a_l_refusal.body (defBody (top 32)) = true := by decide +kernel
theorem s_l_refusal : FnScope n_l_refusal p_l_refusal (defScope (top 32)) := C8.fnScope_by (by decide +kernel)
def b_law_0 : Sms := (.cons (.app 3 (.call "_law_column" (.cons (.sub (.var 5) (.var 6)) (.cons (.var 1) .nil)))) (.cons (.ifs (.and (.cmp .is (.sub (.var 3) (.neg (.cst (.int 1)))) (.cst .non)) (.cmp .is (.var 4) (.cst .non))) (.cons (.set 4 (.var 6)) (.frz 4 .nil)) .nil) .nil))
def a_law : Df := ⟨1, 10, [], (.cons (.set 1 (.bin .add (.cst (.int 1)) (.bin .mod (.call "_law_got" (.cons (.var 0) (.cons (.cst (.int 0)) .nil))) (.cst (.int 4))))) (.cons (.set 2 (.call "_law_text" (.cons (.var 0) .nil))) (.cons (.set 3 (.lst .nil)) (.cons (.set 4 (.cst .non)) (.cons (.ifs (.cmp .ne (.var 2) (.cst (.str []))) (.cons (.set 5 (.m1 .split (.var 2) (.cst (.str [32])))) (.frz 5 (.cons (.for_ (.one 6) (.rng (.bi .len (.cons (.var 5) .nil))) b_law_0) .nil))) .nil) (.cons (.set 7 (.cst .non)) (.cons (.set 8 (.cst .non)) (.cons (.tryS 8 "read_line" (.cons (.var 2) (.cons (.var 1) .nil)) [⟨"BadLine", 9, [(7, .keep)]⟩]) (.frz 8 (.cons (.ifs (.cmp .isn (.var 4) (.cst .non)) (.cons (.ret (.and (.cmp .isn (.var 7) (.cst .non)) (.call "_law_refusal" (.cons (.var 7) (.cons (.var 4) .nil))))) .nil) .nil) (.cons (.ret (.and (.cmp .is (.var 7) (.cst .non)) (.and (.isa (.var 8) "list") (.cmp .eq (.var 8) (.var 3))))) .nil)))))))))))⟩
def n_law : List Str := ["_law_script", "_law_voices", "_law_text_here", "_law_due", "_law_place", "_law_pieces", "_law_k", "_law_refused", "_law_found", "_law_e"]
def p_law : List Str := ["_law_script"]
def c_law : Ck := ⟨n_law, defScope (top 33), defScope (top 33), [], ["isinstance", "len", "list", "range"], [("_law_got", 2), ("_law_text", 1), ("_law_column", 2), ("read_line", 2), ("_law_refusal", 2)], [], [], [], [], xsL, xnL, []⟩
theorem e_law : embSs c_law a_law.body (defBody (top 33)) = true := by decide +kernel
theorem s_law : FnScope n_law p_law (defScope (top 33)) := C8.fnScope_by (by decide +kernel)
def defs : List (String × Df) := [("_law_stirred", a_l_stirred), ("_law_got", a_l_got), ("_law_cells", a_l_cells), ("_law_note", a_l_note), ("_law_sign", a_l_sign), ("_law_bad_note", a_l_bad_note), ("_law_piece", a_l_piece), ("_law_text", a_l_text), ("_law_number", a_l_number), ("_law_column", a_l_column), ("is_number", a_is_number), ("read_column", a_read_column), ("read_line", a_read_line), ("_law_refusal", a_l_refusal), ("law", a_law)]
noncomputable abbrev mir (k : Nat) : Fns := mirN defs k
abbrev eiL (K : PySem.W.Frag) : EIs := eiX K xsL
def d_l_stirred : He.DefD := ⟨("_law_stirred", none), "_law_stirred", "_law_stirred", defArgs (top 22), defBody (top 22), defScope (top 22), [], []⟩
def d_l_got : He.DefD := ⟨("_law_got", none), "_law_got", "_law_got", defArgs (top 23), defBody (top 23), defScope (top 23), [], []⟩
def d_l_cells : He.DefD := ⟨("_law_cells", none), "_law_cells", "_law_cells", defArgs (top 24), defBody (top 24), defScope (top 24), [], []⟩
def d_l_note : He.DefD := ⟨("_law_note", none), "_law_note", "_law_note", defArgs (top 26), defBody (top 26), defScope (top 26), [], []⟩
def d_l_sign : He.DefD := ⟨("_law_sign", none), "_law_sign", "_law_sign", defArgs (top 25), defBody (top 25), defScope (top 25), [], []⟩
def d_l_bad_note : He.DefD := ⟨("_law_bad_note", none), "_law_bad_note", "_law_bad_note", defArgs (top 27), defBody (top 27), defScope (top 27), [], []⟩
def d_l_piece : He.DefD := ⟨("_law_piece", none), "_law_piece", "_law_piece", defArgs (top 28), defBody (top 28), defScope (top 28), [], []⟩
def d_l_text : He.DefD := ⟨("_law_text", none), "_law_text", "_law_text", defArgs (top 29), defBody (top 29), defScope (top 29), [], []⟩
def d_l_number : He.DefD := ⟨("_law_number", none), "_law_number", "_law_number", defArgs (top 30), defBody (top 30), defScope (top 30), [], []⟩
def d_l_column : He.DefD := ⟨("_law_column", none), "_law_column", "_law_column", defArgs (top 31), defBody (top 31), defScope (top 31), [], []⟩
def d_is_number : He.DefD := ⟨("is_number", none), "is_number", "is_number", defArgs (top 17), defBody (top 17), defScope (top 17), [], []⟩
def d_read_column : He.DefD := ⟨("read_column", none), "read_column", "read_column", defArgs (top 19), defBody (top 19), defScope (top 19), [], []⟩
def d_read_line : He.DefD := ⟨("read_line", none), "read_line", "read_line", defArgs (top 20), defBody (top 20), defScope (top 20), [], []⟩
def d_l_refusal : He.DefD := ⟨("_law_refusal", none), "_law_refusal", "_law_refusal", defArgs (top 32), defBody (top 32), defScope (top 32), [], []⟩
def d_law : He.DefD := ⟨("law", none), "law", "law", defArgs (top 33), defBody (top 33), defScope (top 33), [], []⟩
def n_xBadLine : List Str := ["self", "place"]
theorem s_xBadLine : FnScope n_xBadLine n_xBadLine (defScope (mth 3 0)) := C8.fnScope_by (by decide +kernel)
def d_xBadLine : He.DefD := ⟨("BadLine", some "__init__"), "__init__", "BadLine.__init__", defArgs (mth 3 0), defBody (mth 3 0), defScope (mth 3 0), [], []⟩
def fn : List He.DefD := [d_l_stirred, d_l_got, d_l_cells, d_l_note, d_l_sign, d_l_bad_note, d_l_piece, d_l_text, d_l_number, d_l_column, d_is_number, d_read_column, d_read_line, d_l_refusal, d_law, d_xBadLine]
def fa : List He.Fa := [.glo "_law_stirred", .free "divmod", .free "range", .glo "_law_got", .free "abs", .glo "_law_cells", .free "len", .free "min", .glo "_law_note", .free "str", .glo "_law_sign", .glo "_law_bad_note", .glo "_law_piece", .glo "_law_text", .free "max", .glo "_law_number", .free "int", .glo "_law_column", .free "tuple", .glo "is_number", .str "FIGURES" "0123456789", .int "MOST" 40, .glo "read_column", .glo "read_line", .glo "_law_refusal", .free "any", .free "bool", .free "isinstance", .glo "law", .free "list"]
def bs (K : PySem.W.Frag) : Bool := FvX.xbB xsL xnL K && (rsB "BadLine" K && (true))
section
variable {P : Program} {w : World} {K : PySem.W.Frag} {h base : Heap} {mg : Str → Option Value}
theorem xbL (X : K.In h) (G : h.Ns mainGlobals mg) (cb : bs K = true) : FvX.XB K mg xsL xnL := FvX.xbB_ok X G (Bool.and_eq_true_iff.mp cb).1
theorem x_BadLine (X : K.In h) (G : h.Ns mainGlobals mg) (c : He.SaysD fa fn K) (cb : bs K = true) (k : Nat) : RsM P w K mg base (k + 2) "BadLine" 1 := by
  obtain ⟨fd, F⟩ := c.def_ 15 (d := d_xBadLine) rfl
  exact rs_m1 (fl := "place") F s_xBadLine rfl (by decide +kernel) (Bool.and_eq_true_iff.mp (Bool.and_eq_true_iff.mp cb).2).1 (xbL X G cb) (FunD.bindsN (ps := n_xBadLine) F fun _ _ _ _ _ _ us hl => match us, hl with | [_, _], _ => rfl)
theorem m_l_stirred (X : K.In h) (G : h.Ns mainGlobals mg) (c : He.SaysD fa fn K) (cb : bs K = true) (k : Nat) : ModOk P w K mg base (k + 0) (gN defs (eiL K) (k + 0)) c_l_stirred where
  con := conNil
  fr := frCons (He.free_ok X G (c.fact 1)) (frCons (He.free_ok X G (c.fact 2)) (frNil))
  fn := fnNil
  at_ := atNil
  me := meNil
  mks := mksNil
  xb := xbNil
  xr := xrNil
  ei := eiNil
theorem o_l_stirred (X : K.In h) (G : h.Ns mainGlobals mg) (c : He.SaysD fa fn K) (cb : bs K = true) (k : Nat) : FnM P w K mg base (k + 1) (gN defs (eiL K) (k + 1)) "_law_stirred" 2 := by
  obtain ⟨fd, F⟩ := c.def_ 0 (d := d_l_stirred) rfl
  exact fn_m0 F (He.glo_ok X G (c.fact 0)) s_l_stirred rfl rfl rfl (m_l_stirred X G c cb k) e_l_stirred rfl rfl rfl rfl (FunD.bindsN (ps := p_l_stirred) F fun _ _ _ _ _ _ us hl => match us, hl with | [_, _], _ => rfl)
theorem m_l_got (X : K.In h) (G : h.Ns mainGlobals mg) (c : He.SaysD fa fn K) (cb : bs K = true) (k : Nat) : ModOk P w K mg base (k + 1) (gN defs (eiL K) (k + 1)) c_l_got where
  con := conNil
  fr := frCons (He.free_ok X G (c.fact 4)) (frNil)
  fn := fnCons (FnM.lift (by omega) (by omega) (o_l_stirred X G c cb k)) (fnNil)
  at_ := atNil
  me := meNil
  mks := mksNil
  xb := xbNil
  xr := xrNil
  ei := eiNil
theorem o_l_got (X : K.In h) (G : h.Ns mainGlobals mg) (c : He.SaysD fa fn K) (cb : bs K = true) (k : Nat) : FnM P w K mg base (k + 2) (gN defs (eiL K) (k + 2)) "_law_got" 2 := by
  obtain ⟨fd, F⟩ := c.def_ 1 (d := d_l_got) rfl
  exact fn_m0 F (He.glo_ok X G (c.fact 3)) s_l_got rfl rfl rfl (m_l_got X G c cb k) e_l_got rfl rfl rfl rfl (FunD.bindsN (ps := p_l_got) F fun _ _ _ _ _ _ us hl => match us, hl with | [_, _], _ => rfl)
theorem m_l_cells (X : K.In h) (G : h.Ns mainGlobals mg) (c : He.SaysD fa fn K) (cb : bs K = true) (k : Nat) : ModOk P w K mg base (k + 2) (gN defs (eiL K) (k + 2)) c_l_cells where
  con := conNil
  fr := frCons (He.free_ok X G (c.fact 6)) (frCons (He.free_ok X G (c.fact 7)) (frCons (He.free_ok X G (c.fact 2)) (frNil)))
  fn := fnCons (FnM.lift (by omega) (by omega) (o_l_got X G c cb k)) (fnNil)
  at_ := atNil
  me := meNil
  mks := mksNil
  xb := xbNil
  xr := xrNil
  ei := eiNil
theorem o_l_cells (X : K.In h) (G : h.Ns mainGlobals mg) (c : He.SaysD fa fn K) (cb : bs K = true) (k : Nat) : FnM P w K mg base (k + 3) (gN defs (eiL K) (k + 3)) "_law_cells" 3 := by
  obtain ⟨fd, F⟩ := c.def_ 2 (d := d_l_cells) rfl
  exact fn_m0 F (He.glo_ok X G (c.fact 5)) s_l_cells rfl rfl rfl (m_l_cells X G c cb k) e_l_cells rfl rfl rfl rfl (FunD.bindsN (ps := p_l_cells) F fun _ _ _ _ _ _ us hl => match us, hl with | [_, _, _], _ => rfl)
theorem m_l_note (X : K.In h) (G : h.Ns mainGlobals mg) (c : He.SaysD fa fn K) (cb : bs K = true) (k : Nat) : ModOk P w K mg base (k + 0) (gN defs (eiL K) (k + 0)) c_l_note where
  con := conNil
  fr := frCons (He.free_ok X G (c.fact 9)) (frNil)
  fn := fnNil
  at_ := atNil
  me := meNil
  mks := mksNil
  xb := xbNil
  xr := xrNil
  ei := eiNil
theorem o_l_note (X : K.In h) (G : h.Ns mainGlobals mg) (c : He.SaysD fa fn K) (cb : bs K = true) (k : Nat) : FnM P w K mg base (k + 1) (gN defs (eiL K) (k + 1)) "_law_note" 1 := by
  obtain ⟨fd, F⟩ := c.def_ 3 (d := d_l_note) rfl
  exact fn_m0 F (He.glo_ok X G (c.fact 8)) s_l_note rfl rfl rfl (m_l_note X G c cb k) e_l_note rfl rfl rfl rfl (FunD.bindsN (ps := p_l_note) F fun _ _ _ _ _ _ us hl => match us, hl with | [_], _ => rfl)
theorem m_l_sign (X : K.In h) (G : h.Ns mainGlobals mg) (c : He.SaysD fa fn K) (cb : bs K = true) (k : Nat) : ModOk P w K mg base (k + 0) (gN defs (eiL K) (k + 0)) c_l_sign where
  con := conNil
  fr := frCons (He.free_ok X G (c.fact 6)) (frNil)
  fn := fnNil
  at_ := atNil
  me := meNil
  mks := mksNil
  xb := xbNil
  xr := xrNil
  ei := eiNil
theorem o_l_sign (X : K.In h) (G : h.Ns mainGlobals mg) (c : He.SaysD fa fn K) (cb : bs K = true) (k : Nat) : FnM P w K mg base (k + 1) (gN defs (eiL K) (k + 1)) "_law_sign" 1 := by
  obtain ⟨fd, F⟩ := c.def_ 4 (d := d_l_sign) rfl
  exact fn_m0 F (He.glo_ok X G (c.fact 10)) s_l_sign rfl rfl rfl (m_l_sign X G c cb k) e_l_sign rfl rfl rfl rfl (FunD.bindsN (ps := p_l_sign) F fun _ _ _ _ _ _ us hl => match us, hl with | [_], _ => rfl)
theorem m_l_bad_note (X : K.In h) (G : h.Ns mainGlobals mg) (c : He.SaysD fa fn K) (cb : bs K = true) (k : Nat) : ModOk P w K mg base (k + 1) (gN defs (eiL K) (k + 1)) c_l_bad_note where
  con := conNil
  fr := frCons (He.free_ok X G (c.fact 9)) (frNil)
  fn := fnCons (FnM.lift (by omega) (by omega) (o_l_sign X G c cb k)) (fnNil)
  at_ := atNil
  me := meNil
  mks := mksNil
  xb := xbNil
  xr := xrNil
  ei := eiNil
theorem o_l_bad_note (X : K.In h) (G : h.Ns mainGlobals mg) (c : He.SaysD fa fn K) (cb : bs K = true) (k : Nat) : FnM P w K mg base (k + 2) (gN defs (eiL K) (k + 2)) "_law_bad_note" 1 := by
  obtain ⟨fd, F⟩ := c.def_ 5 (d := d_l_bad_note) rfl
  exact fn_m0 F (He.glo_ok X G (c.fact 11)) s_l_bad_note rfl rfl rfl (m_l_bad_note X G c cb k) e_l_bad_note rfl rfl rfl rfl (FunD.bindsN (ps := p_l_bad_note) F fun _ _ _ _ _ _ us hl => match us, hl with | [_], _ => rfl)
theorem m_l_piece (X : K.In h) (G : h.Ns mainGlobals mg) (c : He.SaysD fa fn K) (cb : bs K = true) (k : Nat) : ModOk P w K mg base (k + 2) (gN defs (eiL K) (k + 2)) c_l_piece where
  con := conNil
  fr := frCons (He.free_ok X G (c.fact 2)) (frNil)
  fn := fnCons (FnM.lift (by omega) (by omega) (o_l_note X G c cb (k + 1))) (fnCons (FnM.lift (by omega) (by omega) (o_l_bad_note X G c cb k)) (fnNil))
  at_ := atNil
  me := meNil
  mks := mksNil
  xb := xbNil
  xr := xrNil
  ei := eiNil
theorem o_l_piece (X : K.In h) (G : h.Ns mainGlobals mg) (c : He.SaysD fa fn K) (cb : bs K = true) (k : Nat) : FnM P w K mg base (k + 3) (gN defs (eiL K) (k + 3)) "_law_piece" 3 := by
  obtain ⟨fd, F⟩ := c.def_ 6 (d := d_l_piece) rfl
  exact fn_m0 F (He.glo_ok X G (c.fact 12)) s_l_piece rfl rfl rfl (m_l_piece X G c cb k) e_l_piece rfl rfl rfl rfl (FunD.bindsN (ps := p_l_piece) F fun _ _ _ _ _ _ us hl => match us, hl with | [_, _, _], _ => rfl)
theorem m_l_text (X : K.In h) (G : h.Ns mainGlobals mg) (c : He.SaysD fa fn K) (cb : bs K = true) (k : Nat) : ModOk P w K mg base (k + 3) (gN defs (eiL K) (k + 3)) c_l_text where
  con := conNil
  fr := frCons (He.free_ok X G (c.fact 6)) (frCons (He.free_ok X G (c.fact 14)) (frCons (He.free_ok X G (c.fact 2)) (frNil)))
  fn := fnCons (FnM.lift (by omega) (by omega) (o_l_got X G c cb (k + 1))) (fnCons (FnM.lift (by omega) (by omega) (o_l_cells X G c cb k)) (fnCons (FnM.lift (by omega) (by omega) (o_l_piece X G c cb k)) (fnNil)))
  at_ := atNil
  me := meNil
  mks := mksNil
  xb := xbNil
  xr := xrNil
  ei := eiNil
theorem o_l_text (X : K.In h) (G : h.Ns mainGlobals mg) (c : He.SaysD fa fn K) (cb : bs K = true) (k : Nat) : FnM P w K mg base (k + 4) (gN defs (eiL K) (k + 4)) "_law_text" 1 := by
  obtain ⟨fd, F⟩ := c.def_ 7 (d := d_l_text) rfl
  exact fn_m0 F (He.glo_ok X G (c.fact 13)) s_l_text rfl rfl rfl (m_l_text X G c cb k) e_l_text rfl rfl rfl rfl (FunD.bindsN (ps := p_l_text) F fun _ _ _ _ _ _ us hl => match us, hl with | [_], _ => rfl)
theorem m_l_number (X : K.In h) (G : h.Ns mainGlobals mg) (c : He.SaysD fa fn K) (cb : bs K = true) (k : Nat) : ModOk P w K mg base (k + 0) (gN defs (eiL K) (k + 0)) c_l_number where
  con := conNil
  fr := frCons (He.free_ok X G (c.fact 16)) (frCons (He.free_ok X G (c.fact 6)) (frNil))
  fn := fnNil
  at_ := atNil
  me := meNil
  mks := mksNil
  xb := xbNil
  xr := xrNil
  ei := eiNil
theorem o_l_number (X : K.In h) (G : h.Ns mainGlobals mg) (c : He.SaysD fa fn K) (cb : bs K = true) (k : Nat) : FnM P w K mg base (k + 1) (gN defs (eiL K) (k + 1)) "_law_number" 1 := by
  obtain ⟨fd, F⟩ := c.def_ 8 (d := d_l_number) rfl
  exact fn_m0 F (He.glo_ok X G (c.fact 15)) s_l_number rfl rfl rfl (m_l_number X G c cb k) e_l_number rfl rfl rfl rfl (FunD.bindsN (ps := p_l_number) F fun _ _ _ _ _ _ us hl => match us, hl with | [_], _ => rfl)
theorem m_l_column (X : K.In h) (G : h.Ns mainGlobals mg) (c : He.SaysD fa fn K) (cb : bs K = true) (k : Nat) : ModOk P w K mg base (k + 1) (gN defs (eiL K) (k + 1)) c_l_column where
  con := conNil
  fr := frCons (He.free_ok X G (c.fact 6)) (frCons (He.free_ok X G (c.fact 18)) (frNil))
  fn := fnCons (FnM.lift (by omega) (by omega) (o_l_number X G c cb k)) (fnNil)
  at_ := atNil
  me := meNil
  mks := mksNil
  xb := xbNil
  xr := xrNil
  ei := eiNil
theorem o_l_column (X : K.In h) (G : h.Ns mainGlobals mg) (c : He.SaysD fa fn K) (cb : bs K = true) (k : Nat) : FnM P w K mg base (k + 2) (gN defs (eiL K) (k + 2)) "_law_column" 2 := by
  obtain ⟨fd, F⟩ := c.def_ 9 (d := d_l_column) rfl
  exact fn_m0 F (He.glo_ok X G (c.fact 17)) s_l_column rfl rfl rfl (m_l_column X G c cb k) e_l_column rfl rfl rfl rfl (FunD.bindsN (ps := p_l_column) F fun _ _ _ _ _ _ us hl => match us, hl with | [_, _], _ => rfl)
theorem m_is_number (X : K.In h) (G : h.Ns mainGlobals mg) (c : He.SaysD fa fn K) (cb : bs K = true) (k : Nat) : ModOk P w K mg base (k + 0) (gN defs (eiL K) (k + 0)) c_is_number where
  con := conCons (by obtain ⟨t, e⟩ := He.str_ok X G (c.fact 20); exact ⟨_, e, ⟨t, rfl⟩⟩) (conCons (by obtain ⟨t, e⟩ := He.int_ok X G (c.fact 21); exact ⟨_, e, ⟨t, rfl⟩⟩) (conNil))
  fr := frCons (He.free_ok X G (c.fact 6)) (frNil)
  fn := fnNil
  at_ := atNil
  me := meNil
  mks := mksNil
  xb := xbNil
  xr := xrNil
  ei := eiNil
theorem o_is_number (X : K.In h) (G : h.Ns mainGlobals mg) (c : He.SaysD fa fn K) (cb : bs K = true) (k : Nat) : FnM P w K mg base (k + 1) (gN defs (eiL K) (k + 1)) "is_number" 1 := by
  obtain ⟨fd, F⟩ := c.def_ 10 (d := d_is_number) rfl
  exact fn_m0 F (He.glo_ok X G (c.fact 19)) s_is_number rfl rfl rfl (m_is_number X G c cb k) e_is_number rfl rfl rfl rfl (FunD.bindsN (ps := p_is_number) F fun _ _ _ _ _ _ us hl => match us, hl with | [_], _ => rfl)
theorem m_read_column (X : K.In h) (G : h.Ns mainGlobals mg) (c : He.SaysD fa fn K) (cb : bs K = true) (k : Nat) : ModOk P w K mg base (k + 1) (gN defs (eiL K) (k + 1)) c_read_column where
  con := conNil
  fr := frCons (He.free_ok X G (c.fact 16)) (frCons (He.free_ok X G (c.fact 6)) (frCons (He.free_ok X G (c.fact 18)) (frNil)))
  fn := fnCons (FnM.lift (by omega) (by omega) (o_is_number X G c cb k)) (fnNil)
  at_ := atNil
  me := meNil
  mks := mksNil
  xb := xbNil
  xr := xrNil
  ei := eiNil
theorem o_read_column (X : K.In h) (G : h.Ns mainGlobals mg) (c : He.SaysD fa fn K) (cb : bs K = true) (k : Nat) : FnM P w K mg base (k + 2) (gN defs (eiL K) (k + 2)) "read_column" 2 := by
  obtain ⟨fd, F⟩ := c.def_ 11 (d := d_read_column) rfl
  exact fn_m0 F (He.glo_ok X G (c.fact 22)) s_read_column rfl rfl rfl (m_read_column X G c cb k) e_read_column rfl rfl rfl rfl (FunD.bindsN (ps := p_read_column) F fun _ _ _ _ _ _ us hl => match us, hl with | [_, _], _ => rfl)
theorem m_read_line (X : K.In h) (G : h.Ns mainGlobals mg) (c : He.SaysD fa fn K) (cb : bs K = true) (k : Nat) : ModOk P w K mg base (k + 4) (gN defs (eiL K) (k + 2)) c_read_line where
  con := conNil
  fr := frCons (He.free_ok X G (c.fact 6)) (frNil)
  fn := fnCons (FnM.lift (by omega) (by omega) (o_read_column X G c cb k)) (fnNil)
  at_ := atNil
  me := meNil
  mks := mksNil
  xb := fun _ => xbL X G cb
  xr := xrCons (RsM.lift (by omega) (x_BadLine X G c cb k)) (xrNil)
  ei := fun _ => rfl
theorem o_read_line (X : K.In h) (G : h.Ns mainGlobals mg) (c : He.SaysD fa fn K) (cb : bs K = true) (k : Nat) : FnM P w K mg base (k + 5) (gN defs (eiL K) (k + 3)) "read_line" 2 := by
  obtain ⟨fd, F⟩ := c.def_ 12 (d := d_read_line) rfl
  exact fn_m0 F (He.glo_ok X G (c.fact 23)) s_read_line rfl rfl rfl (m_read_line X G c cb k) e_read_line rfl rfl rfl rfl (FunD.bindsN (ps := p_read_line) F fun _ _ _ _ _ _ us hl => match us, hl with | [_, _], _ => rfl)
theorem m_l_refusal (X : K.In h) (G : h.Ns mainGlobals mg) (c : He.SaysD fa fn K) (cb : bs K = true) (k : Nat) : ModOk P w K mg base (k + 0) (gN defs (eiL K) (k + 0)) c_l_refusal where
  con := conNil
  fr := frCons (He.free_ok X G (c.fact 25)) (frCons (He.free_ok X G (c.fact 26)) (frCons (He.free_ok X G (c.fact 16)) (frCons (He.free_ok X G (c.fact 27)) (frNil))))
  fn := fnNil
  at_ := atNil
  me := meNil
  mks := mksNil
  xb := fun _ => xbL X G cb
  xr := xrNil
  ei := fun _ => rfl
theorem o_l_refusal (X : K.In h) (G : h.Ns mainGlobals mg) (c : He.SaysD fa fn K) (cb : bs K = true) (k : Nat) : FnM P w K mg base (k + 1) (gN defs (eiL K) (k + 1)) "_law_refusal" 2 := by
  obtain ⟨fd, F⟩ := c.def_ 13 (d := d_l_refusal) rfl
  exact fn_m0 F (He.glo_ok X G (c.fact 24)) s_l_refusal rfl rfl rfl (m_l_refusal X G c cb k) e_l_refusal rfl rfl rfl rfl (FunD.bindsN (ps := p_l_refusal) F fun _ _ _ _ _ _ us hl => match us, hl with | [_, _], _ => rfl)
theorem m_law (X : K.In h) (G : h.Ns mainGlobals mg) (c : He.SaysD fa fn K) (cb : bs K = true) (k : Nat) : ModOk P w K mg base (k + 6) (gN defs (eiL K) (k + 4)) c_law where
  con := conNil
  fr := frCons (He.free_ok X G (c.fact 27)) (frCons (He.free_ok X G (c.fact 6)) (frCons (He.free_ok X G (c.fact 29)) (frCons (He.free_ok X G (c.fact 2)) (frNil))))
  fn := fnCons (FnM.lift (by omega) (by omega) (o_l_got X G c cb (k + 2))) (fnCons (FnM.lift (by omega) (by omega) (o_l_text X G c cb k)) (fnCons (FnM.lift (by omega) (by omega) (o_l_column X G c cb (k + 2))) (fnCons (FnM.lift (by omega) (by omega) (o_read_line X G c cb (k + 1))) (fnCons (FnM.lift (by omega) (by omega) (o_l_refusal X G c cb (k + 3))) (fnNil)))))
  at_ := atNil
  me := meNil
  mks := mksNil
  xb := fun _ => xbL X G cb
  xr := xrNil
  ei := fun _ => rfl
end
abbrev rowR : PySem.W.OpenRow := PySem.W.OpenLaw.row PySem.Challenge.rw_fourvoices_k04_lines_refused
abbrev hk : PySem.W.Hook := hookF 4 fa fn bs
def ob (s : PySem.W.SharedT) : AlF := obsF 4 fa fn bs (HandSHeadRun.getT s)
theorem ob_eq (s : PySem.W.SharedT) : ob s = hk.obs s.abs := obsF_eq (HandSHeadRun.getT_eq s)
def loose : List PySem.Str := (["ScoreError", "BadRow", "BadLine", "TooWide", "Apart", "Crowded", "NoNumber", "Unlike", "Unfit", "NoLine", "Endless", "NoRow", "NoName", "FIGURES", "MOST", "is_number", "read_column", "read_line", "_law_stirred", "_law_got", "_law_cells", "_law_sign", "_law_note", "_law_bad_note", "_law_piece", "_law_text", "_law_number", "_law_column", "_law_refusal"] : List PySem.Str)
theorem topRun (w : World) : HandSHeadRun.RunEq rowR (PySem.W.view rowR.prog [33]) hk ob 20000 loose w := by
  intro os
  kernel_rfl
end Lk04
open PySem PySem.W PySem.Calls PyProof.Rows
theorem Lk04.holds (true_ : ∀ (k : Nat) (ns : List Int), ns.length ≤ 63 → (∀ z ∈ ns, PySem.Builtin.Int.intBits z ≤ 1048576) → Fv.runA (Lk04.mir (k + 4)) Lk04.a_law [.scr ns] = .ok (.d (.bl true))) : PySem.Challenge.rw_fourvoices_k04_lines_refused.Holds := by
  w_on; o_law
  refine HandSHeadRun.head_any (r := OpenLaw.row PySem.Challenge.rw_fourvoices_k04_lines_refused) (q := view (OpenLaw.row PySem.Challenge.rw_fourvoices_k04_lines_refused).prog [33]) (H := Lk04.hk) (ob := Lk04.ob) (M := 20000) (loose := Lk04.loose) (d := HandSHeadRun.topDef (OpenLaw.row PySem.Challenge.rw_fourvoices_k04_lines_refused).prog 33) (kwd := []) Lk04.ob_eq
    (by kernel_rfl) (fun s => by kernel_rfl) Lk04.topRun (by kernel_rfl) (by kernel_rfl) (by kernel_rfl) (by rfl) (by first | assumption | decide +kernel) (by decide +kernel) ⟨rfl, rfl, rfl, rfl, rfl, by decide +kernel⟩ ?hw ?hc
  case hw => w_witness2
  case hc =>
    refine Fv.walk_bits (l := PySem.Challenge.rw_fourvoices_k04_lines_refused) (n := 63) (k := 6 + 1) (x := "_law_script") (CX := fun w => L2.CX (PySem.Challenge.rw_fourvoices_k04_lines_refused).prog w) rfl (by decide) (by kernel_rfl) ⟨rfl, by decide, by decide⟩ ?F fun w H s e s' z => Fv.noCX w H s e s' z
    intro w mg fa h Y G hmg0
    obtain ⟨K, KX, c, cb⟩ := Y
    have hmg : mg ("law" : PySem.Str) = some (.ref fa) := by
      have e : (HandSHeadRun.topDef (OpenLaw.row PySem.Challenge.rw_fourvoices_k04_lines_refused).prog 33).name = ("law" : PySem.Str) := by kernel_rfl
      rw [← e]
      exact hmg0
    obtain ⟨fd, F⟩ := He.SaysD.def_ c 14 (d := Lk04.d_law) rfl
    have e := hmg.symm.trans (He.glo_ok KX G (He.SaysD.fact c 28 (f := .glo "law") rfl))
    cases e
    have b := L2.FunD.bindsA (ps := Lk04.p_law) F fun _ _ _ _ _ _ us hl => match us, hl with | [_], _ => rfl
    exact ⟨K, fd, _, KX, fun s v => b s [v] rfl, fun H a ns hl hb hS => Fv.sp_law (g := Fv.gN Lk04.defs (Lk04.eiL K) 4) rfl hS (by have z := true_ 0 ns hl hb; rw [Nat.zero_add] at z; exact z), fun base _ _ => by
      have m := Lk04.m_law (P := (PySem.Challenge.rw_fourvoices_k04_lines_refused).prog) (w := w) (base := base) KX G c cb 0
      rw [Nat.zero_add, Nat.zero_add] at m
      exact Fv.fn_ok F Lk04.s_law rfl rfl rfl m Lk04.e_law rfl rfl⟩
end
section
set_option maxHeartbeats 1000000
namespace Lk04
open Fv
theorem sign_eq (k : Nat) (z : Int) : ∃ c, c < 128 ∧ mir (k + 1) "_law_sign" [.int z] = .ok (.d (.str [c])) := by
  have e : mir (k + 1) "_law_sign" [.int z] = _ := (mirN_run (d := a_l_sign) rfl _).trans (run_0 rfl)
  rw [e]
  obtain ⟨T, hT⟩ : ∃ T : Tx, [122, 121, 120, 119, 118, 117, 116, 115, 114, 113, 112, 111, 110, 109, 108, 107, 106, 105, 104, 103, 102, 101, 100, 99, 98, 97, 57, 56, 55, 54, 53, 52, 51, 50, 49, 48, 45, 46, 44, 90, 89, 88, 87, 86, 85, 84, 83, 82, 81, 80, 79, 78, 77, 76, 75, 74, 73, 72, 71, 70, 69, 68, 67, 66, 65] ++ [32, 43, 95, 42, 47, 61, 60, 62, 40, 41, 91, 93, 123, 125, 124, 126, 94, 38, 35, 64, 33, 63, 59, 58, 39, 34, 36, 92, 10, 96] = T := ⟨_, rfl⟩
  have ad : binD .add (.str [122, 121, 120, 119, 118, 117, 116, 115, 114, 113, 112, 111, 110, 109, 108, 107, 106, 105, 104, 103, 102, 101, 100, 99, 98, 97, 57, 56, 55, 54, 53, 52, 51, 50, 49, 48, 45, 46, 44, 90, 89, 88, 87, 86, 85, 84, 83, 82, 81, 80, 79, 78, 77, 76, 75, 74, 73, 72, 71, 70, 69, 68, 67, 66, 65]) (.str [32, 43, 95, 42, 47, 61, 60, 62, 40, 41, 91, 93, 123, 125, 124, 126, 94, 38, 35, 64, 33, 63, 59, 58, 39, 34, 36, 92, 10, 96]) = .ok (.d (.str T)) := by rw [← hT]; exact add_str (by decide)
  have tl : T.length = 95 := by rw [← hT]; rfl
  have ta : T.all (· < 128) = true := by rw [← hT]; decide
  obtain ⟨c, hc, sb⟩ := sub_str_in (xs := T) (i := z % 95) (by rw [tl]; omega) (by rw [tl]; decide)
  have ln : biD .len [.str T] = .ok (.d (.int 95)) := by rw [bi_len_str (by rw [tl]; decide), tl]; rfl
  refine ⟨c, of_decide_eq_true (List.all_eq_true.mp ta c hc), ?_⟩
  clear hT
  generalize T = T' at *
  simp [a_l_sign, ad, ln, sb]
theorem note_eq (k : Nat) (z : Int) : ∃ t, mir (k + 1) "_law_note" [.int z] = .ok (.d (.str t)) ∧ Pl 60 t := by
  have e : mir (k + 1) "_law_note" [.int z] = _ := (mirN_run (d := a_l_note) rfl _).trans (run_0 rfl)
  rw [e]
  by_cases h1 : z % 5 = 1
  · exact ⟨[46], by simp [a_l_note, h1], by exact ⟨by decide, by decide⟩⟩
  · by_cases h2 : z % 5 = 2
    · obtain ⟨n, hn, hb⟩ : ∃ n : Int, 1000000000000000000000000000000000000000 + z / 5 % 1000000000000000000000000000000 = n ∧ n.natAbs < 10 ^ 40 := ⟨_, rfl, by
        have : (2000000000000000000000000000000000000000 : Nat) < 10 ^ 40 := by decide
        omega⟩
      have bs := bi_str_int (i := n) (Nat.lt_of_lt_of_le hb (by decide +kernel))
      exact ⟨itx n, by simp [a_l_note, h1, h2, hn, bs], (itx_pl (k := 40) (by decide) hb).mono (by decide)⟩
    · obtain ⟨n, hn, hb⟩ : ∃ n : Int, z / 5 % 199 - 99 = n ∧ n.natAbs < 10 ^ 40 := ⟨_, rfl, by
        have : (1000 : Nat) < 10 ^ 40 := by decide
        omega⟩
      have bs := bi_str_int (i := n) (Nat.lt_of_lt_of_le hb (by decide +kernel))
      exact ⟨itx n, by simp [a_l_note, h1, h2, hn, bs], (itx_pl (k := 40) (by decide) hb).mono (by decide)⟩
theorem bad_eq (k : Nat) (z : Int) : ∃ t, mir (k + 2) "_law_bad_note" [.int z] = .ok (.d (.str t)) ∧ Pl 60 t := by
  have e : mir (k + 2) "_law_bad_note" [.int z] = _ := (mirN_run (d := a_l_bad_note) rfl _).trans (run_0 rfl)
  rw [e]
  obtain ⟨n, hn, hb⟩ : ∃ n : Int, z / 6 % 100 = n ∧ n.natAbs < 10 ^ 2 := ⟨_, rfl, by omega⟩
  have bs := bi_str_int (i := n) (Nat.lt_of_lt_of_le hb (by decide +kernel))
  have pt : Pl 3 (itx n) := itx_pl (k := 2) (by decide) hb
  generalize itx n = t at bs pt
  have tl := pt.2
  rcases (show z % 6 = 0 ∨ z % 6 = 1 ∨ z % 6 = 2 ∨ z % 6 = 3 ∨ z % 6 = 4 ∨ z % 6 = 5 by omega) with w | w | w | w | w | w
  · have ml : binD .mul (.str [49]) (.int 41) = .ok (.d (.str (List.replicate 41 49))) := mul_str (n := 41) (by decide)
    exact ⟨_, by simp [a_l_bad_note, w, hn, bs, ml]; rfl, by exact ⟨by decide, by decide⟩⟩
  · have ad := add_str (a := [48]) (b := t) (by simp; omega)
    refine ⟨[48] ++ t, ?_, ((show Pl 1 [48] from ⟨by decide, by decide⟩).app pt).mono (by decide)⟩
    generalize [48] ++ t = u at *
    simp [a_l_bad_note, w, hn, bs, ad]
  · obtain ⟨u, hu, pu⟩ : ∃ u : Tx, subD (.lst [.str [45, 48], .str [45], .str [45, 45, 49], .str [43, 49], .str [46, 46], .str [49, 46, 48]]) (.int (z / 6 % 6)) = .ok (.str u) ∧ Pl 60 u := by
      rcases (show z / 6 % 6 = 0 ∨ z / 6 % 6 = 1 ∨ z / 6 % 6 = 2 ∨ z / 6 % 6 = 3 ∨ z / 6 % 6 = 4 ∨ z / 6 % 6 = 5 by omega) with h | h | h | h | h | h <;> rw [h]
      · exact ⟨_, rfl, by exact ⟨by decide, by decide⟩⟩
      · exact ⟨_, rfl, by exact ⟨by decide, by decide⟩⟩
      · exact ⟨_, rfl, by exact ⟨by decide, by decide⟩⟩
      · exact ⟨_, rfl, by exact ⟨by decide, by decide⟩⟩
      · exact ⟨_, rfl, by exact ⟨by decide, by decide⟩⟩
      · exact ⟨_, rfl, by exact ⟨by decide, by decide⟩⟩
    exact ⟨u, by simp [a_l_bad_note, w, hn, bs, hu], pu⟩
  · obtain ⟨c, hc, sg⟩ := sign_eq k (z / 6)
    have sg : mirN defs (k + 1) "_law_sign" [.int (z / 6)] = _ := sg
    exact ⟨[c], by simp [a_l_bad_note, w, hn, bs, sg], (Pl.one hc).mono (by decide)⟩
  · obtain ⟨c, hc, sb⟩ := sub_str_in (xs := [32, 44, 46, 45, 10]) (i := z / 600 % 5) (by simp; omega) (by decide)
    have hc : c < 128 := by
      simp at hc
      omega
    have s1 : slcD (.str t) none (some 1) = .ok (.d (.str (t.take 1))) := slc_str_to (n := 1) (by omega)
    have s2 : slcD (.str t) (some 1) none = .ok (.d (.str (t.drop 1))) := slc_str_from (n := 1) (by omega)
    have p1 := pt.take 1
    have p2 := pt.drop 1
    generalize t.take 1 = t1 at *
    generalize t.drop 1 = t2 at *
    have a1 := add_str (a := t1) (b := [c]) (by have := p1.2; simp; omega)
    have a2 := add_str (a := t1 ++ [c]) (b := t2) (by have := p1.2; have := p2.2; simp; omega)
    refine ⟨t1 ++ [c] ++ t2, ?_, ((p1.app (Pl.one hc)).app p2).mono (by decide)⟩
    generalize t1 ++ [c] ++ t2 = u at *
    generalize t1 ++ [c] = u1 at *
    simp [a_l_bad_note, w, hn, bs, sb, s1, s2, a1, a2]
  · exact ⟨[], by simp [a_l_bad_note, w, hn, bs], Pl.nil⟩
theorem pl_join {b n : Nat} {s : Nat} (hs : s < 128) {ys : List Tx} (h : ∀ y ∈ ys, Pl b y) (hn : ys.length ≤ n) : Pl (n * (b + 1)) (TL.joinL [s] ys) := by
  refine ⟨List.all_eq_true.mpr fun c hc => ?_, Nat.le_trans (joinL_len fun y hy => (h y hy).2) (Nat.mul_le_mul_right _ hn)⟩
  rcases joinL_in hc with hc | ⟨y, hy, hc⟩
  · rw [List.mem_singleton.mp hc]; exact decide_eq_true hs
  · exact List.all_eq_true.mp (h y hy).1 c hc
theorem piece_eq (k : Nat) {c : Int} (hc : Bt 1100000 c) {v : Nat} (hv : 1 ≤ v ∧ v ≤ 4) (bad : Bool) : ∃ t, mir (k + 3) "_law_piece" [.int c, .int (v : Int), .bl bad] = .ok (.d (.str t)) ∧ Pl 305 t := by
  have e : mir (k + 3) "_law_piece" [.int c, .int (v : Int), .bl bad] = _ := (mirN_run (d := a_l_piece) rfl _).trans (run_0 rfl)
  rw [e]
  have rr : rngD 0 (v : Int) = _ := rng_n (by omega)
  have st0 : exes (mirN defs (k + 2)) a_l_piece.body [.fz (.int c), .fz (.int (v : Int)), .fz (.bl bad), .no, .no, .no] = (forL (.one 4) (exes (mirN defs (k + 2)) b_l_piece_0) ((List.range v).map fun i => .int (i : Nat)) [.fz (.int c), .fz (.int (v : Int)), .fz (.bl bad), .own [], .no, .no]).thn (exes (mirN defs (k + 2)) (dropS 2 a_l_piece.body)) := by
    simp [a_l_piece, dropS, rr]
  show ∃ t, (exes (mirN defs (k + 2)) a_l_piece.body [.fz (.int c), .fz (.int (v : Int)), .fz (.bl bad), .no, .no, .no]).val = _ ∧ _
  rw [st0]
  have m1 := mul_bt (i := c) (j := 48271) 1100000 64 hc (by decide) (by decide)
  refine for_rule (R := fun o => ∃ t, (o.thn _).val = R.ok (Val.d (.str t)) ∧ Pl 305 t) (fun i S => ∃ ys x, S = [.fz (.int c), .fz (.int (v : Int)), .fz (.bl bad), .own (strsD ys), x, .no] ∧ ys.length = i ∧ ∀ y ∈ ys, Pl 60 y) ⟨[], _, rfl, rfl, fun _ h => nomatch h⟩ ?_ ?_
  · rintro i x S hx ⟨ys, x4, rfl, hl, hy⟩
    obtain ⟨hi', rfl⟩ := rng_get hx
    refine ⟨_, rfl, ?_⟩
    have hb : Bt 64 ((i : Int) + 1) := Bt.of (by omega) (Int.lt_of_lt_of_le (show (i : Int) + 1 < 100 by omega) (by decide))
    have m2 := mul_bt (i := c) (j := (i : Int) + 1) 1100000 64 hc hb (by decide)
    have m3 : binD .mul (.int (c * ((i : Int) + 1) % 9973)) (.int 1009) = .ok (.d (.int (c * ((i : Int) + 1) % 9973 * 1009))) := by
      have h1 := Int.emod_nonneg (c * ((i : Int) + 1)) (show (9973 : Int) ≠ 0 by decide)
      have h2 := Int.emod_lt_of_pos (c * ((i : Int) + 1)) (show (0 : Int) < 9973 by decide)
      generalize c * ((i : Int) + 1) % 9973 = q at *
      exact mul_sm (by omega) (by omega)
    obtain ⟨t, nt, pt⟩ := note_eq (k + 1) (c * 48271 % 1000003 + c * ((i : Int) + 1) % 9973 * 1009)
    have nt : mirN defs (k + 2) "_law_note" [.int (c * 48271 % 1000003 + c * ((i : Int) + 1) % 9973 * 1009)] = _ := nt
    generalize c * 48271 = q1 at *
    generalize c * ((i : Int) + 1) = q2 at *
    generalize q2 % 9973 * 1009 = q3 at *
    have sl : (strsD ys).length < 16777216 := by rw [strsD_len]; omega
    have fin : ∃ zs, strsD zs = strsD ys ++ [.str t] ∧ zs.length = i + 1 ∧ ∀ y ∈ zs, Pl 60 y := ⟨ys ++ [t], by unfold strsD; rw [List.map_append]; rfl, by rw [List.length_append, hl]; rfl, fun y h => by
      rcases List.mem_append.mp h with h | h
      · exact hy y h
      · rw [List.mem_singleton.mp h]; exact pt⟩
    clear hy
    generalize strsD ys = Y at *
    obtain ⟨zs, e1, e2, e3⟩ := fin
    simp [b_l_piece_0, m1, m2, m3, nt, sl]
    exact ⟨zs, e1.symm, e2, e3⟩
  · rintro S ⟨ys, x4, rfl, hl, hy⟩
    rw [List.length_map, List.length_range] at hl
    obtain ⟨w, hw, hw4⟩ : ∃ w : Int, c % 4 = w ∧ 0 ≤ w ∧ w < 4 := ⟨_, rfl, by omega⟩
    have fin : ∀ zs : List Tx, zs.length ≤ 5 → (∀ y ∈ zs, Pl 60 y) → m1D .join [44] (.lst (strsD zs)) = .ok (.d (.str (TL.joinL [44] zs))) ∧ Pl 305 (TL.joinL [44] zs) := fun zs h1 h2 =>
      ⟨m1_join (b := 60) (fun y hy => (h2 y hy).2) rfl (by omega), pl_join (b := 60) (n := 5) (by decide) h2 h1⟩
    cases bad with
    | false =>
      obtain ⟨f1, f2⟩ := fin ys (by omega) hy
      refine ⟨_, ?_, f2⟩
      generalize strsD ys = Y at *
      simp [a_l_piece, dropS, f1]
    | true =>
      rcases (show w = 0 ∨ w = 1 ∨ 1 < w by omega) with g | g | g
      · subst g
        obtain ⟨f1, f2⟩ := fin (ys.drop 1) (by rw [List.length_drop]; omega) fun y h => hy y (List.mem_of_mem_drop h)
        refine ⟨_, ?_, f2⟩
        have sl : slcD (.lst (strsD ys)) (some 1) none = .ok (.fr (strsD (ys.drop 1))) := slc_strs_from ys 1
        generalize strsD (ys.drop 1) = Z at *
        generalize strsD ys = Y at *
        simp [a_l_piece, dropS, hw, sl, f1]
      · subst g
        obtain ⟨f1, f2⟩ := fin (ys ++ [[49]]) (by rw [List.length_append, List.length_singleton]; omega) fun y h => by
          rcases List.mem_append.mp h with h | h
          · exact hy y h
          · rw [List.mem_singleton.mp h]; exact ⟨by decide, by decide⟩
        refine ⟨_, ?_, f2⟩
        have ad : binD .add (.lst (strsD ys)) (.lst [.str [49]]) = .ok (.fr (strsD (ys ++ [[49]]))) := by
          have : strsD (ys ++ [[49]]) = strsD ys ++ [.str [49]] := by unfold strsD; rw [List.map_append]; rfl
          rw [this]
          exact add_lst (by rw [strsD_len, List.length_singleton]; omega)
        generalize strsD (ys ++ [[49]]) = Z at *
        generalize strsD ys = Y at *
        simp [a_l_piece, dropS, hw, ad, f1]
      · obtain ⟨a, ea, ha⟩ : ∃ a : Nat, c / 4 % (v : Int) = (a : Int) ∧ a < v := ⟨(c / 4 % (v : Int)).toNat, by have := Int.emod_nonneg (c / 4) (show (v : Int) ≠ 0 by omega); omega, by have := Int.emod_lt_of_pos (c / 4) (show (0 : Int) < (v : Int) by omega); have := Int.emod_nonneg (c / 4) (show (v : Int) ≠ 0 by omega); omega⟩
        obtain ⟨t, bt, pt⟩ := bad_eq k (c / 16 % 1000000000)
        have bt : mirN defs (k + 2) "_law_bad_note" [.int (c / 16 % 1000000000)] = _ := bt
        obtain ⟨f1, f2⟩ := fin (ys.set a t) (by rw [List.length_set]; omega) fun y h => by
          rcases List.mem_or_eq_of_mem_set h with h | h
          · exact hy y h
          · rw [h]; exact pt
        refine ⟨_, ?_, f2⟩
        have ix : ixOf (strsD ys).length (a : Int) = some a := ixOf_nat (by rw [strsD_len]; omega)
        have se : (strsD ys).set a (.str t) = strsD (ys.set a t) := by unfold strsD; rw [List.map_set]
        have os : ∀ n : Nat, optR (some n) R.ok = R.ok n := fun _ => rfl
        have vp : (0 : Int) < (v : Int) := by omega
        have g0 : ¬ w = 0 := by omega
        have g1 : ¬ w = 1 := by omega
        generalize strsD (ys.set a t) = Z at *
        generalize strsD ys = Y at *
        generalize (a : Int) = az at *
        generalize (v : Int) = vz at *
        simp [a_l_piece, dropS, hw, g, g0, g1, vp, ea, bt, ix, os, se, f1]
theorem text_eq (k : Nat) {ns : List Int} (h : Sc ns) : ∃ T, mir (k + 4) "_law_text" [.scr ns] = .ok (.d (.str T)) ∧ Pl 20000 T := by
  have e : mir (k + 4) "_law_text" [.scr ns] = _ := (mirN_run (d := a_l_text) rfl _).trans (run_0 rfl)
  rw [e]
  have g0 : mirN defs (k + 3) "_law_got" [.scr ns, .int 0] = _ := (got_eq rfl rfl (k + 1) (show 0 < 1000000 by decide) h).1
  have ct : mirN defs (k + 3) "_law_cells" [.scr ns, .int 1, .int 41] = _ := cells_at rfl rfl rfl k 1 41 (by decide) (by decide) h
  obtain ⟨cs, hcs, hcl, hcb⟩ : ∃ cs : List Int, ((List.range (min 41 ns.length - 1)).map fun i => D.int (gotV ns (1 + i))) = intsD cs ∧ cs.length ≤ 40 ∧ ∀ c ∈ cs, Bt 1100000 c := ⟨(List.range (min 41 ns.length - 1)).map fun i => gotV ns (1 + i), by unfold intsD; rw [List.map_map]; rfl, by rw [List.length_map, List.length_range]; omega, fun c hc => by
    obtain ⟨i, _, rfl⟩ := List.mem_map.mp hc
    exact (got_lt _ h).2⟩
  rw [hcs] at ct
  obtain ⟨v, hv, hv4⟩ : ∃ v : Nat, 1 + gotV ns 0 % 4 = (v : Int) ∧ 1 ≤ v ∧ v ≤ 4 := ⟨(1 + gotV ns 0 % 4).toNat, by omega, by omega, by omega⟩
  obtain ⟨way, hw, hw4⟩ : ∃ w : Int, gotV ns 0 / 4 % 4 = w ∧ 0 ≤ w ∧ w < 4 := ⟨_, rfl, by omega⟩
  obtain ⟨nn, hnn⟩ : ∃ nn : Int, (cs.length : Int) = nn := ⟨_, rfl⟩
  obtain ⟨mm, hmm, mp⟩ : ∃ mm : Int, (if 1 < nn then nn else 1) = mm ∧ 0 < mm := ⟨_, rfl, by split <;> omega⟩
  obtain ⟨at_, hat⟩ : ∃ a : Int, gotV ns 0 / 16 % mm = a := ⟨_, rfl⟩
  generalize gotV ns 0 = c0 at *
  have ll : ((intsD cs).length : Int) = nn := by rw [intsD_len, hnn]
  have rr : rngD 0 nn = .ok ((List.range cs.length).map fun i => .int (i : Nat)) := by rw [← hnn]; exact rng_n (by omega)
  have st0 : exes (mirN defs (k + 3)) a_l_text.body [.fz (.scr ns), .no, .no, .no, .no, .no, .no, .no] = (forL (.one 6) (exes (mirN defs (k + 3)) b_l_text_0) ((List.range cs.length).map fun i => .int (i : Nat)) [.fz (.scr ns), .fz (.int (v : Int)), .fz (.lst (intsD cs)), .fz (.int way), .fz (.int at_), .own [], .no, .no]).thn (exes (mirN defs (k + 3)) (dropS 7 a_l_text.body)) := by
    generalize intsD cs = C at *
    simp [a_l_text, dropS, g0, hv, ct, hw, ll, hmm, mp, hat, rr]
  show ∃ T, (exes (mirN defs (k + 3)) a_l_text.body [.fz (.scr ns), .no, .no, .no, .no, .no, .no, .no]).val = _ ∧ _
  rw [st0]
  clear st0 ct g0 e hw hv hat hmm
  refine for_rule (R := fun o => ∃ T, (o.thn _).val = R.ok (Val.d (.str T)) ∧ Pl 20000 T) (fun i S => ∃ ys x y, S = [.fz (.scr ns), .fz (.int (v : Int)), .fz (.lst (intsD cs)), .fz (.int way), .fz (.int at_), .own (strsD ys), x, y] ∧ ys.length = i ∧ ∀ y ∈ ys, Pl 305 y) ⟨[], _, _, rfl, rfl, fun _ h => nomatch h⟩ ?_ ?_
  · rintro i x S hx ⟨ys, x6, x7, rfl, hl, hy⟩
    obtain ⟨hi', rfl⟩ := rng_get hx
    refine ⟨_, rfl, ?_⟩
    have sb := sub_lst (intsD_at hi')
    have cb := hcb _ (List.getElem_mem hi')
    have pc : ∀ bad : Bool, ∃ t, mirN defs (k + 3) "_law_piece" [.int cs[i], .int (v : Int), .bl bad] = .ok (.d (.str t)) ∧ Pl 305 t := fun bad => piece_eq k cb hv4 bad
    generalize cs[i] = cc at *
    have fin : ∀ t, Pl 305 t → ∃ zs, strsD zs = strsD ys ++ [.str t] ∧ zs.length = i + 1 ∧ ∀ y ∈ zs, Pl 305 y := fun t pt => ⟨ys ++ [t], (strsD_snoc ys t).symm, by rw [List.length_append, hl]; rfl, fun y h => by
      rcases List.mem_append.mp h with h | h
      · exact hy y h
      · rw [List.mem_singleton.mp h]; exact pt⟩
    have sl : (strsD ys).length < 16777216 := by rw [strsD_len]; omega
    clear hy hcb
    generalize strsD ys = Y at *
    generalize intsD cs = C at *
    generalize (v : Int) = vz at *
    obtain ⟨iz, hiz⟩ : ∃ iz : Int, (i : Int) = iz := ⟨_, rfl⟩
    rw [hiz] at sb ⊢
    rcases (show way = 0 ∨ way = 1 ∨ way = 2 ∨ way = 3 by omega) with g | g | g | g
    · subst g
      obtain ⟨t, et, pt⟩ := pc false
      obtain ⟨zs, e1, e2, e3⟩ := fin t pt
      simp [b_l_text_0, sb, et, sl]
      exact ⟨zs, e1.symm, e2, e3⟩
    · subst g
      by_cases g2 : iz = at_
      · subst g2
        obtain ⟨t, et, pt⟩ := pc true
        obtain ⟨zs, e1, e2, e3⟩ := fin t pt
        simp [b_l_text_0, sb, et, sl]
        exact ⟨zs, e1.symm, e2, e3⟩
      · obtain ⟨t, et, pt⟩ := pc false
        obtain ⟨zs, e1, e2, e3⟩ := fin t pt
        simp [b_l_text_0, sb, et, sl, g2]
        exact ⟨zs, e1.symm, e2, e3⟩
    · subst g
      by_cases g2 : iz = nn - 1
      · subst g2
        obtain ⟨t, et, pt⟩ := pc true
        obtain ⟨zs, e1, e2, e3⟩ := fin t pt
        simp [b_l_text_0, sb, et, sl, ll]
        exact ⟨zs, e1.symm, e2, e3⟩
      · obtain ⟨t, et, pt⟩ := pc false
        obtain ⟨zs, e1, e2, e3⟩ := fin t pt
        simp [b_l_text_0, sb, et, sl, g2, ll]
        exact ⟨zs, e1.symm, e2, e3⟩
    · subst g
      by_cases g2 : cc / 7 % 3 = 1
      · obtain ⟨t, et, pt⟩ := pc true
        obtain ⟨zs, e1, e2, e3⟩ := fin t pt
        simp [b_l_text_0, sb, et, sl, g2]
        exact ⟨zs, e1.symm, e2, e3⟩
      · obtain ⟨t, et, pt⟩ := pc false
        obtain ⟨zs, e1, e2, e3⟩ := fin t pt
        simp [b_l_text_0, sb, et, sl, g2]
        exact ⟨zs, e1.symm, e2, e3⟩
  · rintro S ⟨ys, x6, x7, rfl, hl, hy⟩
    rw [List.length_map, List.length_range] at hl
    have jn := m1_join (a := [32]) (b := 305) (fun y h => (hy y h).2) rfl (show ys.length * (305 + 1) ≤ 16777216 by omega)
    refine ⟨TL.joinL [32] ys, ?_, (pl_join (b := 305) (n := 40) (by decide) hy (by omega)).mono (by decide)⟩
    generalize strsD ys = Y at *
    generalize intsD cs = C at *
    simp [a_l_text, dropS, jn]
end Lk04
end
section
set_option maxHeartbeats 1000000
namespace Lk04
open Fv
/-- the number that a word writes -/
def wv (p : Tx) : Int := (intOf p).getD 0
theorem dg_all {f : Tx} (h : Dg f) : PySem.NumText.AllDigits f := fun c hc => by
  have := h c hc
  simp [FIG] at this
  omega
theorem int_of {p : Tx} (h : numB p = true) : biD .int [.str p] = .ok (.d (.int (wv p))) := by
  have fin : ∀ n : Int, intOf p = some n → p.length ≤ 640 → biD .int [.str p] = .ok (.d (.int (wv p))) := fun n e hl => by
    show (if p.length ≤ 640 then optR (intOf p) (fun n => R.ok (Val.d (D.int n))) else R.bad) = _
    unfold wv
    rw [if_pos hl, e]
    rfl
  by_cases hw : ∃ r, p = 45 :: r
  · obtain ⟨r, rfl⟩ := hw
    have h : decide (r ≠ [48] ∧ numF r) = true := h
    obtain ⟨h1, h2⟩ := of_decide_eq_true h
    have e := PySem.intText_neg (x := (⟨(45 :: r).toArray⟩ : PySem.Str)) rfl (dg_all h2.2.2.2) h2.1 (by rw [show (⟨(45 :: r).toArray⟩ : PySem.Str).length = (45 :: r).length from SX.S_len _, List.length_cons]; have := h2.2.1; omega)
    exact fin _ e (by rw [List.length_cons]; have := h2.2.1; omega)
  · rw [numB_plain hw] at h
    have h2 := of_decide_eq_true h
    have e := PySem.intText_digits (x := (⟨p.toArray⟩ : PySem.Str)) (dg_all h2.2.2.2) h2.1 (by show (⟨p.toArray⟩ : PySem.Str).length ≤ 4300; rw [show (⟨p.toArray⟩ : PySem.Str).length = p.length from SX.S_len _]; have := h2.2.1; omega)
    exact fin _ e (by have := h2.2.1; omega)
theorem dig_loop2 {Γ : Fns} {a b : Sl} {T : Out → Prop} : ∀ (f : Tx) (c : Sl), (Dg f → ∀ c', T (.nx [a, b, c'])) → (¬ Dg f → T (.rt (.d .non))) →
    T (forL (Tg.one 2) (exes Γ b_l_number_0) (f.map fun c => .str [c]) [a, b, c])
  | [], c, h1, _ => h1 (fun _ h => nomatch h) c
  | x :: f, c, h1, h2 => by
    rw [List.map_cons, forL_cons]
    by_cases hx : x ∈ FIG
    · have ih := dig_loop2 (Γ := Γ) (a := a) (b := b) (T := T) f (.fz (.str [x])) (fun hd => h1 fun y hy => (List.mem_cons.mp hy).elim (fun e => e ▸ hx) (hd y)) (fun hn => h2 fun hd => hn fun y hy => hd y (List.mem_cons_of_mem _ hy))
      have e : decide (x ∈ FIG) = true := decide_eq_true hx
      simp only [b_l_number_0, set_one, Out.of_ok, List.set_cons_succ, List.set_cons_zero, exes_cons, exe_ifs, evT_def, evL_cmp', ev_cmp, evL_var, look_succ, look_fz, R.ok_bind, evL_cst, nin_one, e, D_d, truth_bl, Bool.not_true, pick_f, exes_nil, thn_nx, turn_nx]
      exact ih
    · have e : decide (x ∈ FIG) = false := decide_eq_false hx
      simp only [b_l_number_0, set_one, Out.of_ok, List.set_cons_succ, List.set_cons_zero, exes_cons, exe_ifs, evT_def, evL_cmp', ev_cmp, evL_var, look_succ, look_fz, R.ok_bind, evL_cst, nin_one, e, D_d, truth_bl, Bool.not_false, pick_t, ret_cst, thn_rt, turn_rt]
      exact h2 fun hd => hx (hd x (List.mem_cons_self ..))
/-- by the law's rest -/
def lnB (p f : Tx) : Prop := f ≠ [] ∧ f.length ≤ 40 ∧ Dg f ∧ ¬ (f[0]? = some 48 ∧ p ≠ [48])
theorem lnum_rest {Γ : Fns} (p f : Tx) (c : Sl) (hp : Pl 16777216 p) (h : Pl 16777216 f) (b : Bool) (hb : b = true ↔ lnB p f) (hi : b = true → biD .int [.str p] = .ok (.d (.int (wv p)))) : (exes Γ (dropS 3 a_l_number.body) [.fz (.str p), .fz (.str f), c]).val = .ok (.d (if b = true then .int (wv p) else .non)) := by
  have l1 := bi_len_str (s := f) h.2
  cases f with
  | nil =>
    have : b = false := by
      cases b with
      | false => rfl
      | true => exact absurd rfl (hb.mp rfl).1
    subst this
    simp [dropS, a_l_number, l1]
  | cons x r =>
    have s0 : subD (.str (x :: r)) (.int 0) = .ok (.str [x]) := sub_str (i := 0) rfl h.2
    have hx : x < 128 := of_decide_eq_true (List.all_eq_true.mp h.1 x (List.mem_cons_self ..))
    have e1 := eq_str ((Pl.one hx).mono (by decide)) (b := [48]) (show Pl 16777216 [48] from ⟨rfl, by decide⟩)
    have e2 := ne_str hp (b := [48]) (show Pl 16777216 [48] from ⟨rfl, by decide⟩)
    by_cases h40 : (40 : Int) < (r.length : Int) + 1
    · have : b = false := by
        cases b with
        | false => rfl
        | true =>
          have := (hb.mp rfl).2.1
          rw [List.length_cons] at this
          omega
      subst this
      have h0 : ¬ ((r.length : Int) + 1 < 1) := by omega
      simp [dropS, a_l_number, l1, h40, h0]
    · have h0 : ¬ ((r.length : Int) + 1 < 1) := by omega
      have st : exes Γ (dropS 3 a_l_number.body) [.fz (.str p), .fz (.str (x :: r)), c] = (forL (Tg.one 2) (exes Γ b_l_number_0) ((x :: r).map fun c => .str [c]) [.fz (.str p), .fz (.str (x :: r)), c]).thn (exes Γ (dropS 5 a_l_number.body)) := by
        simp [dropS, a_l_number, l1, h40, h0]
      rw [st]
      refine dig_loop2 (T := fun o => (o.thn _).val = R.ok (Val.d (if b = true then .int (wv p) else .non))) (x :: r) c (fun hd c' => ?_) fun hn => ?_
      · by_cases hz : x = 48 ∧ p ≠ [48]
        · obtain ⟨rfl, hz⟩ := hz
          have : b = false := by
            cases b with
            | false => rfl
            | true => exact absurd ⟨rfl, hz⟩ (hb.mp rfl).2.2.2
          subst this
          simp [dropS, a_l_number, s0, e1, e2, hz]
        · have : b = true := hb.mpr ⟨by simp, by rw [List.length_cons]; omega, hd, fun y => hz ⟨by simpa using y.1, y.2⟩⟩
          subst this
          have hi := hi rfl
          by_cases hx48 : x = 48
          · have hp48 : p = [48] := Classical.byContradiction fun y => hz ⟨hx48, y⟩
            have e2 : cmpD .ne (.str p) (.str [48]) = .ok false := by rw [e2, decide_eq_true hp48]; rfl
            subst hx48
            clear hp48
            simp [dropS, a_l_number, s0, e1, e2, hi]
          · simp [dropS, a_l_number, s0, e1, hx48, hi]
      · have : b = false := by
          cases b with
          | false => rfl
          | true => exact absurd (hb.mp rfl).2.2.1 hn
        subst this
        simp
theorem lnum_eq (k : Nat) (p : Tx) (h : Pl 16777216 p) : mir (k + 1) "_law_number" [.str p] = .ok (.d (if numB p = true then .int (wv p) else .non)) := by
  refine (mirN_run (d := a_l_number) rfl _).trans ((run_0 rfl).trans ?_)
  have t1 : slcD (.str p) none (some 1) = .ok (.d (.str (p.take 1))) := slc_str_to (n := 1) h.2
  have t2 : slcD (.str p) (some 1) none = .ok (.d (.str (p.drop 1))) := slc_str_from (n := 1) h.2
  by_cases hw : ∃ r, p = 45 :: r
  · obtain ⟨r, rfl⟩ := hw
    have hr : Pl 16777216 r := h.drop 1
    have e45 := eq_str (a := [45]) (b := [45]) (show Pl 16777216 [45] from ⟨rfl, by decide⟩) (show Pl 16777216 [45] from ⟨rfl, by decide⟩)
    have z := lnum_rest (Γ := mirN defs k) (45 :: r) r .no h hr (numB (45 :: r)) (by
      show decide (r ≠ [48] ∧ numF r) = true ↔ _
      rw [decide_eq_true_eq]
      constructor
      · rintro ⟨h1, h2, h3, h4, h5⟩
        refine ⟨h2, h3, h5, fun y => ?_⟩
        cases r with
        | nil => exact h2 rfl
        | cons a r =>
          have ha : a = 48 := Option.some.inj y.1
          subst ha
          cases r with
          | nil => exact h1 rfl
          | cons b r => exact h4 ⟨rfl, by simp⟩
      · rintro ⟨h2, h3, h5, h6⟩
        have h48 : r[0]? ≠ some 48 := fun y => h6 ⟨y, fun z => by cases z⟩
        exact ⟨fun y => h48 (by rw [y]; rfl), h2, h3, fun y => h48 y.1, h5⟩) int_of
    rw [← z]
    simp [a_l_number, t1, t2, e45, dropS]
  · have e4 : p.take 1 ≠ [45] := fun y => hw (by
      cases p with
      | nil => cases y
      | cons a r =>
        rw [List.take_succ_cons, List.take_zero] at y
        cases y
        exact ⟨r, rfl⟩)
    have e1 := eq_str ((h.take 1)) (b := [45]) (show Pl 16777216 [45] from ⟨rfl, by decide⟩)
    rw [decide_eq_false e4] at e1
    have z := lnum_rest (Γ := mirN defs k) p p .no h h (numB p) (by
      rw [numB_plain hw, decide_eq_true_eq]
      constructor
      · rintro ⟨h2, h3, h4, h5⟩
        refine ⟨h2, h3, h5, fun y => h4 ⟨y.1, ?_⟩⟩
        cases p with
        | nil => exact absurd rfl h2
        | cons a r =>
          have ha : a = 48 := Option.some.inj y.1
          subst ha
          cases r with
          | nil => exact absurd rfl y.2
          | cons b r => simp
      · rintro ⟨h2, h3, h5, h6⟩
        refine ⟨h2, h3, fun y => h6 ⟨y.1, fun z => ?_⟩, h5⟩
        rw [z] at y
        exact absurd y.2 (by decide)) int_of
    rw [← z]
    generalize p.take 1 = q at *
    simp [a_l_number, t1, t2, e1, dropS]
end Lk04
end
section
set_option maxHeartbeats 1000000
namespace Lk04
open Fv
def okP (p : Tx) : Bool := decide (p = [46]) || numB p
def cellV (p : Tx) : D := if p = [46] then .non else .int (wv p)
def partsT (w : Tx) : List Tx := TL.spl [44] 0 [] w
def goodW (v : Nat) (w : Tx) : Bool := decide ((partsT w).length = v) && (partsT w).all okP
def colR (v : Nat) (w : Tx) : D := if goodW v w = true then .tup ((partsT w).map cellV) else .non
theorem spl_pl {n : Nat} {s : Nat} : ∀ (l acc : Tx), (∀ c ∈ l, c < 128) → (∀ c ∈ acc, c < 128) → acc.length + l.length ≤ n → ∀ y ∈ TL.spl [s] 0 acc l, Pl n y
  | [], acc, _, h2, h3, y, hy => by
    rw [TL.spl_nil, List.mem_singleton] at hy
    subst hy
    exact ⟨List.all_eq_true.mpr fun c hc => decide_eq_true (h2 c hc), by simpa using h3⟩
  | c :: l, acc, h1, h2, h3, y, hy => by
    have hl : ∀ c ∈ l, c < 128 := fun d hd => h1 d (List.mem_cons_of_mem _ hd)
    rw [List.length_cons] at h3
    cases hp : TL.pre [s] (c :: l) with
    | true =>
      rw [TL.spl_hit hp] at hy
      rcases List.mem_cons.mp hy with rfl | hy
      · exact ⟨List.all_eq_true.mpr fun c hc => decide_eq_true (h2 c hc), by omega⟩
      · exact spl_pl l [] hl (fun _ h => nomatch h) (by simp; omega) y hy
    | false =>
      rw [TL.spl_miss hp] at hy
      refine spl_pl l (acc ++ [c]) hl (fun d hd => ?_) (by rw [List.length_append, List.length_singleton]; omega) y hy
      rcases List.mem_append.mp hd with hd | hd
      · exact h2 d hd
      · rw [List.mem_singleton.mp hd]; exact h1 c (List.mem_cons_self ..)
theorem parts_pl {n : Nat} {w : Tx} (h : Pl n w) (s : Nat) : ∀ y ∈ TL.spl [s] 0 [] w, Pl n y := spl_pl w [] (fun c hc => of_decide_eq_true (List.all_eq_true.mp h.1 c hc)) (fun _ h => nomatch h) (by simpa using h.2)
theorem split_any {n : Nat} {w : Tx} {s : Nat} (hs : s < 256) (h : Pl n w) (hn : n + 2 ≤ 16777216) : m1D .split w (.str [s]) = .ok (.fr (strsD (TL.spl [s] 0 [] w))) := by
  show (if _ ∧ _ ∧ _ then _ else _) = _
  rw [if_pos ⟨by simp, by simp [hs], by have := h.2; show _ ≤ 16777216; omega⟩]
  rfl
theorem spl_len (s : Nat) : ∀ (l acc : Tx), (TL.spl [s] 0 acc l).length ≤ l.length + 1
  | [], acc => by rw [TL.spl_nil]; exact Nat.le_refl _
  | c :: l, acc => by
    cases hp : TL.pre [s] (c :: l) with
    | true =>
      rw [TL.spl_hit hp]
      have := spl_len s l []
      rw [List.length_cons, List.length_cons]
      exact Nat.succ_le_succ this
    | false =>
      rw [TL.spl_miss hp]
      have := spl_len s l (acc ++ [c])
      rw [List.length_cons]
      omega
def cells (l : List Tx) : List D := l.map cellV
theorem cells_len (l : List Tx) : (cells l).length = l.length := List.length_map _
theorem cells_snoc (l : List Tx) (p : Tx) : cells l ++ [cellV p] = cells (l ++ [p]) := by unfold cells; rw [List.map_append]; rfl
theorem bad_part {v : Nat} {w : Tx} {i : Nat} (h : i < (partsT w).length) (hb : okP (partsT w)[i] = false) : colR v w = .non := by
  unfold colR
  rw [if_neg]
  intro g
  have g2 := (Bool.and_eq_true_iff.mp g).2
  have := List.all_eq_true.mp g2 _ (List.getElem_mem h)
  rw [hb] at this
  cases this
theorem all_parts {w : Tx} (h : ∀ t (ht : t < (partsT w).length), okP (partsT w)[t] = true) : (partsT w).all okP = true := List.all_eq_true.mpr fun p hp => by
  obtain ⟨t, ht, rfl⟩ := List.getElem_of_mem hp
  exact h t ht
theorem lcol_eq (k : Nat) (v : Nat) {w : Tx} (h : Pl 20000 w) (hv : v ≤ 4) : mir (k + 2) "_law_column" [.str w, .int (v : Int)] = .ok (.d (colR v w)) := by
  refine (mirN_run (d := a_l_column) rfl _).trans ((run_0 rfl).trans ?_)
  have sp : m1D .split w (.str [44]) = .ok (.fr (strsD (partsT w))) := split_any (by decide) h (by decide)
  have pp : ∀ y ∈ partsT w, Pl 20000 y := parts_pl h 44
  have ln : (partsT w).length ≤ 20001 := Nat.le_trans (spl_len 44 w []) (by have := h.2; omega)
  have ll : ((strsD (partsT w)).length : Int) = ((partsT w).length : Int) := by rw [strsD_len]
  by_cases hl : (partsT w).length = v
  · have st0 : exes (mirN defs (k + 1)) a_l_column.body [.fz (.str w), .fz (.int (v : Int)), .no, .no, .no] = (forL (.one 4) (exes (mirN defs (k + 1)) b_l_column_0) (strsD (partsT w)) [.fz (.str w), .fz (.int (v : Int)), .fz (.lst (strsD (partsT w))), .own [], .no]).thn (exes (mirN defs (k + 1)) (dropS 5 a_l_column.body)) := by
      rw [hl] at ll
      generalize strsD (partsT w) = P at *
      generalize (v : Int) = vz at *
      simp [a_l_column, dropS, sp, ll]
    refine (congrArg Out.val st0).trans ?_
    refine for_rule (R := fun o => (o.thn _).val = R.ok (Val.d (colR v w))) (fun i S => ∃ x, S = [.fz (.str w), .fz (.int (v : Int)), .fz (.lst (strsD (partsT w))), .own (cells ((partsT w).take i)), x] ∧ ∀ t (ht : t < (partsT w).length), t < i → okP (partsT w)[t] = true) ⟨_, rfl, fun _ _ h => absurd h (Nat.not_lt_zero _)⟩ ?_ ?_
    · rintro i x S hx ⟨x4, rfl, hg⟩
      have hi' : i < (partsT w).length := by
        have := (List.getElem?_eq_some_iff.mp hx).1
        rwa [strsD_len] at this
      rw [strsD_at hi'] at hx
      have hx := (Option.some.inj hx).symm
      subst hx
      refine ⟨_, rfl, ?_⟩
      have pq := pp _ (List.getElem_mem hi')
      have sl : (cells ((partsT w).take i)).length < 16777216 := by rw [cells_len, List.length_take]; omega
      have sn := cells_snoc ((partsT w).take i) (partsT w)[i]
      rw [← List.take_succ_eq_append_getElem hi'] at sn
      have bad := bad_part (v := v) hi'
      have gd : okP (partsT w)[i] = true → ∀ t (ht : t < (partsT w).length), t < i + 1 → okP (partsT w)[t] = true := fun h t ht hti => by
        by_cases e : t = i
        · subst e; exact h
        · exact hg t ht (by omega)
      have nq : mirN defs (k + 1) "_law_number" [.str (partsT w)[i]] = _ := lnum_eq k _ (pq.mono (by decide))
      have eq := eq_str (pq.mono (by decide)) (b := [46]) (show Pl 16777216 [46] from ⟨rfl, by decide⟩)
      have sm : ∀ d : D, subD (.lst (cells ((partsT w).take i) ++ [d])) (.int (-1)) = .ok d := fun d => by
        show optR ((ixOf (cells ((partsT w).take i) ++ [d]).length (-1)).bind ((cells ((partsT w).take i) ++ [d])[·]?)) _ = _
        rw [ixOf_last (by rw [List.length_append]; simp), List.length_append, List.length_singleton, Nat.add_sub_cancel]
        show optR ((cells ((partsT w).take i) ++ [d])[(cells ((partsT w).take i)).length]?) _ = _
        rw [List.getElem?_append_right (Nat.le_refl _), Nat.sub_self]
        rfl
      generalize (partsT w)[i] = p at *
      by_cases h46 : p = [46]
      · have c46 : cellV p = .non := by unfold cellV; rw [if_pos h46]
        have ok : okP p = true := by unfold okP; rw [decide_eq_true h46]; rfl
        have fin := gd ok
        rw [c46] at sn
        rw [decide_eq_true h46] at eq
        clear sm nq
        generalize cells ((partsT w).take (i + 1)) = Y at *
        generalize cells ((partsT w).take i) = X at *
        generalize strsD (partsT w) = P at *
        simp [b_l_column_0, eq, sl, sn]
        exact fin
      · rw [decide_eq_false h46] at eq
        cases hn : numB p with
        | true =>
          have c46 : cellV p = .int (wv p) := by unfold cellV; rw [if_neg h46]
          have ok : okP p = true := by unfold okP; rw [hn]; simp
          have fin := gd ok
          have sm1 := sm (.int (wv p))
          clear sm
          rw [c46] at sn
          rw [hn] at nq
          rw [sn] at sm1
          generalize cells ((partsT w).take (i + 1)) = Y at *
          generalize cells ((partsT w).take i) = X at *
          generalize strsD (partsT w) = P at *
          simp [b_l_column_0, eq, nq, sl, sn, sm1]
          exact fin
        | false =>
          have ok : okP p = false := by unfold okP; rw [hn, decide_eq_false h46]; rfl
          have sm1 := sm .non
          clear sm
          rw [hn] at nq
          rw [bad ok]
          generalize cells ((partsT w).take i) = X at *
          generalize strsD (partsT w) = P at *
          simp [b_l_column_0, eq, nq, sl, sm1]
    · rintro S ⟨x4, rfl, hg⟩
      rw [strsD_len] at hg ⊢
      have gw : goodW v w = true := Bool.and_eq_true_iff.mpr ⟨decide_eq_true hl, all_parts fun t ht => hg t ht ht⟩
      have e : colR v w = .tup (cells (partsT w)) := by unfold colR; rw [if_pos gw]; rfl
      rw [e, List.take_length]
      generalize cells (partsT w) = X at *
      generalize strsD (partsT w) = P at *
      simp [a_l_column, dropS]
  · have e : colR v w = .non := by
      unfold colR
      rw [if_neg]
      intro g
      exact hl (of_decide_eq_true (Bool.and_eq_true_iff.mp g).1)
    rw [e]
    have hl2 : ¬ ((partsT w).length : Int) = (v : Int) := by omega
    generalize ((partsT w).length : Int) = ln at *
    generalize strsD (partsT w) = P at *
    show (exes (mirN defs (k + 1)) a_l_column.body [.fz (.str w), .fz (.int (v : Int)), .no, .no, .no]).val = _
    generalize (v : Int) = vz at *
    simp [a_l_column, sp, ll, hl2]
theorem rcol_eq (k : Nat) (v : Nat) {w : Tx} (h : Pl 20000 w) (hv : v ≤ 4) : mir (k + 2) "read_column" [.str w, .int (v : Int)] = .ok (.d (colR v w)) := by
  refine (mirN_run (d := a_read_column) rfl _).trans ((run_0 rfl).trans ?_)
  have sp : m1D .split w (.str [44]) = .ok (.fr (strsD (partsT w))) := split_any (by decide) h (by decide)
  have pp : ∀ y ∈ partsT w, Pl 20000 y := parts_pl h 44
  have ln : (partsT w).length ≤ 20001 := Nat.le_trans (spl_len 44 w []) (by have := h.2; omega)
  have st0 : exes (mirN defs (k + 1)) a_read_column.body [.fz (.str w), .fz (.int (v : Int)), .no, .no] = (forL (.one 3) (exes (mirN defs (k + 1)) b_read_column_0) (strsD (partsT w)) [.fz (.str w), .fz (.int (v : Int)), .own [], .no]).thn (exes (mirN defs (k + 1)) (dropS 2 a_read_column.body)) := by
    generalize strsD (partsT w) = P at *
    generalize (v : Int) = vz at *
    simp [a_read_column, dropS, sp]
  refine (congrArg Out.val st0).trans ?_
  refine for_rule (R := fun o => (o.thn _).val = R.ok (Val.d (colR v w))) (fun i S => ∃ x, S = [.fz (.str w), .fz (.int (v : Int)), .own (cells ((partsT w).take i)), x] ∧ ∀ t (ht : t < (partsT w).length), t < i → okP (partsT w)[t] = true) ⟨_, rfl, fun _ _ h => absurd h (Nat.not_lt_zero _)⟩ ?_ ?_
  · rintro i x S hx ⟨x4, rfl, hg⟩
    have hi' : i < (partsT w).length := by
      have := (List.getElem?_eq_some_iff.mp hx).1
      rwa [strsD_len] at this
    rw [strsD_at hi'] at hx
    have hx := (Option.some.inj hx).symm
    subst hx
    refine ⟨_, rfl, ?_⟩
    have pq := pp _ (List.getElem_mem hi')
    have sl : (cells ((partsT w).take i)).length < 16777216 := by rw [cells_len, List.length_take]; omega
    have sn := cells_snoc ((partsT w).take i) (partsT w)[i]
    rw [← List.take_succ_eq_append_getElem hi'] at sn
    have bad := bad_part (v := v) hi'
    have gd : okP (partsT w)[i] = true → ∀ t (ht : t < (partsT w).length), t < i + 1 → okP (partsT w)[t] = true := fun h t ht hti => by
      by_cases e : t = i
      · subst e; exact h
      · exact hg t ht (by omega)
    have nq : mirN defs (k + 1) "is_number" [.str (partsT w)[i]] = _ := is_number_eq (defs := defs) rfl k _ (pq.mono (by decide))
    have eq := eq_str (pq.mono (by decide)) (b := [46]) (show Pl 16777216 [46] from ⟨rfl, by decide⟩)
    generalize (partsT w)[i] = p at *
    by_cases h46 : p = [46]
    · have c46 : cellV p = .non := by unfold cellV; rw [if_pos h46]
      have ok : okP p = true := by unfold okP; rw [decide_eq_true h46]; rfl
      have fin := gd ok
      rw [c46] at sn
      rw [decide_eq_true h46] at eq
      clear nq
      generalize cells ((partsT w).take (i + 1)) = Y at *
      generalize cells ((partsT w).take i) = X at *
      simp [b_read_column_0, eq, sl, sn]
      exact fin
    · rw [decide_eq_false h46] at eq
      cases hn : numB p with
      | true =>
        have c46 : cellV p = .int (wv p) := by unfold cellV; rw [if_neg h46]
        have ok : okP p = true := by unfold okP; rw [hn]; simp
        have fin := gd ok
        have ip := int_of hn
        rw [c46] at sn
        rw [hn] at nq
        generalize cells ((partsT w).take (i + 1)) = Y at *
        generalize cells ((partsT w).take i) = X at *
        simp [b_read_column_0, eq, nq, sl, sn, ip]
        exact fin
      | false =>
        have ok : okP p = false := by unfold okP; rw [hn, decide_eq_false h46]; rfl
        rw [hn] at nq
        rw [bad ok]
        generalize cells ((partsT w).take i) = X at *
        simp [b_read_column_0, eq, nq]
  · rintro S ⟨x4, rfl, hg⟩
    rw [strsD_len] at hg ⊢
    have all := all_parts fun t ht => hg t ht ht
    have cl : ((cells (partsT w)).length : Int) = ((partsT w).length : Int) := by rw [cells_len]
    rw [List.take_length]
    by_cases hl : (partsT w).length = v
    · have gw : goodW v w = true := Bool.and_eq_true_iff.mpr ⟨decide_eq_true hl, all⟩
      have e : colR v w = .tup (cells (partsT w)) := by unfold colR; rw [if_pos gw]; rfl
      rw [e]
      rw [hl] at cl
      generalize cells (partsT w) = X at *
      generalize (v : Int) = vz at *
      simp [a_read_column, dropS, cl]
    · have e : colR v w = .non := by
        unfold colR
        rw [if_neg]
        intro g
        exact hl (of_decide_eq_true (Bool.and_eq_true_iff.mp g).1)
      have hl2 : ¬ ((partsT w).length : Int) = (v : Int) := by omega
      rw [e]
      generalize ((partsT w).length : Int) = ln at *
      generalize cells (partsT w) = X at *
      generalize (v : Int) = vz at *
      simp [a_read_column, dropS, cl, hl2]
end Lk04
end
section
set_option maxHeartbeats 1000000
namespace Lk04
open Fv
def wordsT (T : Tx) : List Tx := TL.spl [32] 0 [] T
def rowsC (v : Nat) (l : List Tx) : List D := l.map (colR v)
theorem rowsC_len (v : Nat) (l : List Tx) : (rowsC v l).length = l.length := List.length_map _
theorem rowsC_snoc (v : Nat) (l : List Tx) (p : Tx) : rowsC v l ++ [colR v p] = rowsC v (l ++ [p]) := by unfold rowsC; rw [List.map_append]; rfl
theorem colR_bad {v : Nat} {w : Tx} (h : goodW v w = false) : colR v w = .non := by unfold colR; rw [h]; rfl
theorem colR_good {v : Nat} {w : Tx} (h : goodW v w = true) : colR v w = .tup (cells (partsT w)) := by unfold colR; rw [h]; rfl
/-- what read_line does: all pieces good, or the first bad one is at t -/
theorem line_run (k : Nat) (v : Nat) {T : Tx} (h : Pl 20000 T) (hv : v ≤ 4) (hT : T ≠ []) {res : R Val} (hgood : (∀ t (ht : t < (wordsT T).length), goodW v (wordsT T)[t] = true) → res = .ok (.fr (rowsC v (wordsT T))))
    (hbad : ∀ t (ht : t < (wordsT T).length), goodW v (wordsT T)[t] = false → (∀ j (hj : j < (wordsT T).length), j < t → goodW v (wordsT T)[j] = true) → res = .er "BadLine" [.int (t : Int)]) : mir (k + 3) "read_line" [.str T, .int (v : Int)] = res := by
  refine (mirN_run (d := a_read_line) rfl _).trans ((run_0 rfl).trans ?_)
  have sp : m1D .split T (.str [32]) = .ok (.fr (strsD (wordsT T))) := split_any (by decide) h (by decide)
  have pp : ∀ y ∈ wordsT T, Pl 20000 y := parts_pl h 32
  have ln : (wordsT T).length ≤ 20001 := Nat.le_trans (spl_len 32 T []) (by have := h.2; omega)
  have eT := eq_str (h.mono (by decide)) (b := []) Pl.nil
  rw [decide_eq_false hT] at eT
  have st0 : exes (mirN defs (k + 2)) a_read_line.body [.fz (.str T), .fz (.int (v : Int)), .no, .no, .no] = (forL (.one 3) (exes (mirN defs (k + 2)) b_read_line_0) (strsD (wordsT T)) [.fz (.str T), .fz (.int (v : Int)), .own [], .no, .no]).thn (exes (mirN defs (k + 2)) (dropS 3 a_read_line.body)) := by
    generalize strsD (wordsT T) = P at *
    generalize (v : Int) = vz at *
    simp [a_read_line, dropS, sp, eT]
  refine (congrArg Out.val st0).trans ?_
  refine for_rule (R := fun o => (o.thn _).val = res) (fun i S => ∃ x y, S = [.fz (.str T), .fz (.int (v : Int)), .own (rowsC v ((wordsT T).take i)), x, y] ∧ ∀ t (ht : t < (wordsT T).length), t < i → goodW v (wordsT T)[t] = true) ⟨_, _, rfl, fun _ _ h => absurd h (Nat.not_lt_zero _)⟩ ?_ ?_
  · rintro i x S hx ⟨x3, x4, rfl, hg⟩
    have hi' : i < (wordsT T).length := by
      have := (List.getElem?_eq_some_iff.mp hx).1
      rwa [strsD_len] at this
    rw [strsD_at hi'] at hx
    have hx := (Option.some.inj hx).symm
    subst hx
    refine ⟨_, rfl, ?_⟩
    have pq := pp _ (List.getElem_mem hi')
    have sl : (rowsC v ((wordsT T).take i)).length < 16777216 := by rw [rowsC_len, List.length_take]; omega
    have sll : ((rowsC v ((wordsT T).take i)).length : Int) = (i : Int) := by rw [rowsC_len, List.length_take, Nat.min_eq_left (by omega)]
    have sn := rowsC_snoc v ((wordsT T).take i) (wordsT T)[i]
    rw [← List.take_succ_eq_append_getElem hi'] at sn
    have rc : mirN defs (k + 2) "read_column" [.str (wordsT T)[i], .int (v : Int)] = _ := rcol_eq k v pq hv
    cases hb : goodW v (wordsT T)[i] with
    | true =>
      have gd : ∀ t (ht : t < (wordsT T).length), t < i + 1 → goodW v (wordsT T)[t] = true := fun t ht hti => by
        by_cases e : t = i
        · subst e; exact hb
        · exact hg t ht (by omega)
      rw [colR_good hb] at rc sn
      clear hg hb
      generalize (wordsT T)[i] = w at *
      generalize cells (partsT w) = C at *
      generalize rowsC v ((wordsT T).take (i + 1)) = Y at *
      generalize rowsC v ((wordsT T).take i) = X at *
      simp [b_read_line_0, rc, sl, sn]
      exact gd
    | false =>
      rw [hbad i hi' hb fun j hj hji => hg j hj hji]
      rw [colR_bad hb] at rc
      have ro : rseO "BadLine" [.int (i : Int)] = .er "BadLine" [.int (i : Int)] := rseO_of rfl rfl
      clear hg hb hbad hgood
      generalize (wordsT T)[i] = w at *
      generalize rowsC v ((wordsT T).take i) = X at *
      generalize (i : Int) = iz at *
      simp [b_read_line_0, rc, sll, ro]
  · rintro S ⟨x3, x4, rfl, hg⟩
    rw [strsD_len] at hg ⊢
    rw [hgood fun t ht => hg t ht ht, List.take_length]
    generalize rowsC v (wordsT T) = X at *
    simp [a_read_line, dropS]
theorem refusal_eq (k : Nat) (t : Int) : mir (k + 1) "_law_refusal" [.exc "BadLine" ["place"] [.int t], .int t] = .ok (.d (.bl true)) := by
  refine (mirN_run (d := a_l_refusal) rfl _).trans ((run_0 rfl).trans ?_)
  have q : ∀ n : String, isxD ["BadLine"] n (.exc "BadLine" ["place"] [.int t]) = .ok (FvX.isxB "BadLine" n) := fun n => isxD_of (by decide)
  have f : xflD ["BadLine"] "place" (.exc "BadLine" ["place"] [.int t]) = .ok (.int t) := xflD_of (by decide) (by decide) rfl
  have i1 : FvX.isxB "BadLine" "ScoreError" = true := by decide
  have i2 : FvX.isxB "BadLine" "ValueError" = true := by decide
  have o1 : FvX.isxB "BadLine" "BadRow" = false := by decide
  have o2 : FvX.isxB "BadLine" "Unlike" = false := by decide
  have o3 : FvX.isxB "BadLine" "Unfit" = false := by decide
  have o4 : FvX.isxB "BadLine" "NoLine" = false := by decide
  have o5 : FvX.isxB "BadLine" "Apart" = false := by decide
  have o6 : FvX.isxB "BadLine" "Crowded" = false := by decide
  have o7 : FvX.isxB "BadLine" "Endless" = false := by decide
  have o8 : FvX.isxB "BadLine" "NoName" = false := by decide
  have o9 : FvX.isxB "BadLine" "NoNumber" = false := by decide
  have oa : FvX.isxB "BadLine" "NoRow" = false := by decide
  have ob : FvX.isxB "BadLine" "TooWide" = false := by decide
  have an : biD .any [.lst [.bl false, .bl false, .bl false, .bl false, .bl false, .bl false, .bl false, .bl false, .bl false, .bl false, .bl false]] = .ok (.d (.bl false)) := rfl
  generalize D.exc "BadLine" ["place"] [.int t] = E at *
  simp [a_l_refusal, q, f, i1, i2, o1, o2, o3, o4, o5, o6, o7, o8, o9, oa, ob, an]
theorem clb_rows (v : Nat) (l : List Tx) : clb (.lst (rowsC v l)) = true := by
  show (rowsC v l).all (D.cl 4) = true
  rw [List.all_eq_true]
  intro x hx
  obtain ⟨w, _, rfl⟩ := List.mem_map.mp hx
  unfold colR
  split
  · show ((partsT w).map cellV).all (D.cl 3) = true
    rw [List.all_eq_true]
    intro y hy
    obtain ⟨p, _, rfl⟩ := List.mem_map.mp hy
    unfold cellV
    split <;> rfl
  · rfl
/-- the first bad piece is at t -/
def BadAt (v : Nat) (T : Tx) (t : Nat) : Prop := ∃ ht : t < (wordsT T).length, goodW v (wordsT T)[t] = false ∧ ∀ j (hj : j < (wordsT T).length), j < t → goodW v (wordsT T)[j] = true
theorem law_eq (k : Nat) (ns : List Int) (h : Sc ns) : runA (mir (k + 4)) a_law [.scr ns] = .ok (.d (.bl true)) := by
  have g0 : mirN defs (k + 4) "_law_got" [.scr ns, .int 0] = _ := (got_eq rfl rfl (k + 2) (show 0 < 1000000 by decide) h).1
  obtain ⟨v, hv, hv4⟩ : ∃ v : Nat, 1 + gotV ns 0 % 4 = (v : Int) ∧ 1 ≤ v ∧ v ≤ 4 := ⟨(1 + gotV ns 0 % 4).toNat, by omega, by omega, by omega⟩
  obtain ⟨T, te, pT⟩ := text_eq k h
  have te : mirN defs (k + 4) "_law_text" [.scr ns] = _ := te
  generalize gotV ns 0 = c0 at *
  have neT := ne_str (pT.mono (by decide)) (b := []) Pl.nil
  have nx : FvX.xNs "BadLine" = ["place"] := rfl
  by_cases hT : T = []
  · subst hT
    have rl : mirN defs (k + 4) "read_line" [.str [], .int (v : Int)] = .ok (.fr []) := by
      refine (mirN_run (d := a_read_line) rfl _).trans ((run_0 rfl).trans ?_)
      have eT := eq_str (a := []) (b := []) Pl.nil Pl.nil
      generalize (v : Int) = vz at *
      simp [a_read_line, eT]
    have eq : cmpD .eq (.lst []) (.lst []) = .ok true := by rw [eq_lst rfl rfl, decide_eq_true rfl]
    rw [decide_eq_true rfl] at neT
    show (exes (mirN defs (k + 4)) a_law.body [.fz (.scr ns), .no, .no, .no, .no, .no, .no, .no, .no, .no]).val = _
    generalize (v : Int) = vz at *
    simp [a_law, g0, hv, te, neT, rl, eq]
  · rw [decide_eq_false hT] at neT
    have sp : m1D .split T (.str [32]) = .ok (.fr (strsD (wordsT T))) := split_any (by decide) pT (by decide)
    have pp : ∀ y ∈ wordsT T, Pl 20000 y := parts_pl pT 32
    have ln : (wordsT T).length ≤ 20001 := Nat.le_trans (spl_len 32 T []) (by have := pT.2; omega)
    have ll : ((strsD (wordsT T)).length : Int) = ((wordsT T).length : Int) := by rw [strsD_len]
    have rr : rngD 0 ((wordsT T).length : Int) = .ok ((List.range (wordsT T).length).map fun i => .int (i : Nat)) := rng_n (by omega)
    have st0 : exes (mirN defs (k + 4)) a_law.body [.fz (.scr ns), .no, .no, .no, .no, .no, .no, .no, .no, .no] = ((forL (.one 6) (exes (mirN defs (k + 4)) b_law_0) ((List.range (wordsT T).length).map fun i => .int (i : Nat)) [.fz (.scr ns), .fz (.int (v : Int)), .fz (.str T), .own [], .fz .non, .fz (.lst (strsD (wordsT T))), .no, .no, .no, .no]).thn (exes (mirN defs (k + 4)) .nil)).thn (exes (mirN defs (k + 4)) (dropS 5 a_law.body)) := by
      generalize strsD (wordsT T) = P at *
      generalize (v : Int) = vz at *
      simp [a_law, dropS, g0, hv, te, neT, sp, ll, rr]
    show (exes (mirN defs (k + 4)) a_law.body [.fz (.scr ns), .no, .no, .no, .no, .no, .no, .no, .no, .no]).val = _
    rw [st0]
    clear st0
    refine for_rule (R := fun o => ((o.thn _).thn _).val = R.ok (Val.d (.bl true))) (fun i S => ∃ p x, S = [.fz (.scr ns), .fz (.int (v : Int)), .fz (.str T), .own (rowsC v ((wordsT T).take i)), .fz p, .fz (.lst (strsD (wordsT T))), x, .no, .no, .no] ∧
      ((p = .non ∧ ∀ t (ht : t < (wordsT T).length), t < i → goodW v (wordsT T)[t] = true) ∨ ∃ t : Nat, p = .int (t : Int) ∧ BadAt v T t)) ⟨_, _, rfl, .inl ⟨rfl, fun _ _ h => absurd h (Nat.not_lt_zero _)⟩⟩ ?_ ?_
    · rintro i x S hx ⟨p, x6, rfl, hp⟩
      obtain ⟨hi', rfl⟩ := rng_get hx
      refine ⟨_, rfl, ?_⟩
      have sb := sub_lst (strsD_at hi')
      have pq := pp _ (List.getElem_mem hi')
      have sl : (rowsC v ((wordsT T).take i)).length < 16777216 := by rw [rowsC_len, List.length_take]; omega
      have sn := rowsC_snoc v ((wordsT T).take i) (wordsT T)[i]
      rw [← List.take_succ_eq_append_getElem hi'] at sn
      have rc : mirN defs (k + 4) "_law_column" [.str (wordsT T)[i], .int (v : Int)] = _ := lcol_eq (k + 2) v pq hv4.2
      have sm : subD (.lst (rowsC v ((wordsT T).take i) ++ [colR v (wordsT T)[i]])) (.int (-1)) = .ok (colR v (wordsT T)[i]) := by
        show optR ((ixOf (rowsC v ((wordsT T).take i) ++ [colR v (wordsT T)[i]]).length (-1)).bind ((rowsC v ((wordsT T).take i) ++ [colR v (wordsT T)[i]])[·]?)) _ = _
        rw [ixOf_last (by rw [List.length_append]; simp), List.length_append, List.length_singleton, Nat.add_sub_cancel]
        show optR ((rowsC v ((wordsT T).take i) ++ [colR v (wordsT T)[i]])[(rowsC v ((wordsT T).take i)).length]?) _ = _
        rw [List.getElem?_append_right (Nat.le_refl _), Nat.sub_self]
        rfl
      rw [sn] at sm
      cases hb : goodW v (wordsT T)[i] with
      | true =>
        have fin : ((p = .non ∧ ∀ t (ht : t < (wordsT T).length), t < i + 1 → goodW v (wordsT T)[t] = true) ∨ ∃ t : Nat, p = .int (t : Int) ∧ BadAt v T t) := by
          rcases hp with ⟨e, hg⟩ | hp
          · exact .inl ⟨e, fun t ht hti => by
              by_cases e : t = i
              · subst e; exact hb
              · exact hg t ht (by omega)⟩
          · exact .inr hp
        rw [colR_good hb] at rc sn sm
        clear hb hp
        generalize (wordsT T)[i] = w at *
        generalize cells (partsT w) = C at *
        generalize rowsC v ((wordsT T).take (i + 1)) = Y at *
        generalize rowsC v ((wordsT T).take i) = X at *
        generalize strsD (wordsT T) = P at *
        generalize (v : Int) = vz at *
        simp [b_law_0, sb, rc, sl, sn, sm]
        exact fin
      | false =>
        rw [colR_bad hb] at rc sn sm
        rcases hp with ⟨rfl, hg⟩ | ⟨t, rfl, bt⟩
        · have fin : BadAt v T i := ⟨hi', hb, hg⟩
          clear hb hg
          generalize (wordsT T)[i] = w at *
          generalize rowsC v ((wordsT T).take (i + 1)) = Y at *
          generalize rowsC v ((wordsT T).take i) = X at *
          generalize strsD (wordsT T) = P at *
          generalize (v : Int) = vz at *
          simp [b_law_0, sb, rc, sl, sn, sm]
          exact ⟨i, rfl, fin⟩
        · clear hb
          generalize (wordsT T)[i] = w at *
          generalize rowsC v ((wordsT T).take (i + 1)) = Y at *
          generalize rowsC v ((wordsT T).take i) = X at *
          generalize strsD (wordsT T) = P at *
          generalize (v : Int) = vz at *
          simp [b_law_0, sb, rc, sl, sn, sm]
          exact ⟨t, rfl, bt⟩
    · rintro S ⟨p, x6, rfl, hp⟩
      rw [List.length_map, List.length_range] at hp
      rw [List.length_map, List.length_range, List.take_length]
      rcases hp with ⟨rfl, hg⟩ | ⟨t, rfl, ht, ht1, ht2⟩
      · have rl : mirN defs (k + 4) "read_line" [.str T, .int (v : Int)] = .ok (.fr (rowsC v (wordsT T))) := line_run (k + 1) v pT hv4.2 hT (fun _ => rfl) fun t ht hb _ => by rw [hg t ht ht] at hb; cases hb
        have eq : cmpD .eq (.lst (rowsC v (wordsT T))) (.lst (rowsC v (wordsT T))) = .ok true := by rw [eq_lst (clb_rows _ _) (clb_rows _ _), decide_eq_true rfl]
        clear hg
        generalize rowsC v (wordsT T) = X at *
        generalize strsD (wordsT T) = P at *
        generalize (v : Int) = vz at *
        simp [a_law, dropS, rl, eq]
      · have rl : mirN defs (k + 4) "read_line" [.str T, .int (v : Int)] = .er "BadLine" [.int (t : Int)] := line_run (k + 1) v pT hv4.2 hT (fun hg => by rw [hg t ht] at ht1; cases ht1) fun t' ht' hb' hj' => by
          have e : t' = t := by
            rcases Nat.lt_trichotomy t t' with l | l | l
            · rw [hj' t ht l] at ht1; cases ht1
            · exact l.symm
            · rw [ht2 t' ht' l] at hb'; cases hb'
          rw [e]
        have rf : mirN defs (k + 4) "_law_refusal" [.exc "BadLine" ["place"] [.int (t : Int)], .int (t : Int)] = _ := refusal_eq (k + 3) (t : Int)
        clear ht1 ht2
        generalize rowsC v (wordsT T) = X at *
        generalize strsD (wordsT T) = P at *
        generalize (v : Int) = vz at *
        generalize (t : Int) = tz at *
        simp [a_law, dropS, rl, hdO_hit, nx, rf]
end Lk04
open PySem
theorem PySem.Challenge.cw_fourvoices_k04_lines_refused_holds : PySem.Challenge.rw_fourvoices_k04_lines_refused.Holds := by
  exact Lk04.holds fun k ns hl hb => Lk04.law_eq k ns (Fv.script_sc hl hb)
end
