import PyProof.Rows.All
import HandS.Conv
import HandS.Iter
import HandS.ForMost
import HandS.Rev
import HandS.Style
import HandS.HeadHook2
import HandS.TupAny
import HandS.Wide
import HandS.Deep
import HandS.StrMore
import HandS.Text
import HandS.Codes
import HandS.RaiseMore
import HandS.Flow
import HandS.Comp
import HandS.IsInst
import HandS.Exc
import HandS.WordsExc
import HandS.NoneIn
import HandS.SetFor
import PyProof.Rows.ReprOcc
import HandS.Defaults
import HandS.ClsMeth
import HandS.Ends
import HandS.EndBits
import HandS.Head0
import HandS.Head1
import HandS.Head2
import HandS.HeadEnd
import PySem.Challenge.RW_fourvoices_k23_the_fault_of_a_line
set_option Elab.async false
set_option linter.all false
set_option maxRecDepth 100000
section
namespace Fv
open PySem PySem.Spec L2
open PyProof.Rows hiding St
section
variable {prog : Program} {w : World} {A : Around} {E : Value → Shared → Prop} {s : Shared}

theorem extend_long {R : Result → Shared → Prop} {r : Addr} {a b c : Int} {t u v : Tok} {n : Nat} (hh : A.handled = none) (hr : IsRange s.heap r a b c t u v) (hsmall : Builtin.Range.small a b c = false)
    (hn : Builtin.Range.rangeSize a b c = n) (hlen : n ≤ 2 ^ 24) (S : Addr) (res : Value) (c₀ : Nat) (hS : s.heap.get? S = some { cls := .type "list", data := .seq #[] c₀ })
    (hR : ∀ h' tk acc' c', (∀ b o, b ≠ S → s.heap.get? b = some o → h'.get? b = some o) → h'.get? S = some { cls := .type "list", dict := none, data := .seq acc' c', slots := #[] } →
      ItemsOf (fun i v => ∃ t, v = .int (a + i * c) t) acc' n → R (.ok (.ret res)) { s with heap := h', toks := tk }) :
    wpAny (model prog w) A.in1 (Builtin.List.listExtendWith (.ref S) (.ref r) res)
      (fun fin s' => match fin with | .done f => R (.ok f) s' | .again c' => c'.quiet = true ∧ codeAny (model prog w) A c' R s') (fun e s' => R (.error e) s') s := by
  have hSr : S ≠ r := fun e => by cases e; rw [hr] at hS; simp at hS
  have hSlt : S < s.heap.objs.size := Heap.lt_size hS
  have hSI : S ≠ s.heap.objs.size := Nat.ne_of_lt hSlt
  have hSf : S ∉ [s.heap.objs.size] := fun hm => hSI (List.mem_singleton.mp hm)
  have W := Walks.toS (Walks.longrange (prog := prog) (w := w) (A := A.in1) hh s.heap.objs.size a c n)
  have key : ∀ (h : Heap) (c₁ tk : Nat), IsLongIter h s.heap.objs.size (a + ((0 : Nat) : Int) * c) ((n : Int) - ((0 : Nat) : Int)) c → (∀ b o, b ≠ S → s.heap.get? b = some o → h.get? b = some o) →
      h.get? S = some { cls := .type "list", data := .seq #[] c₁ } → codeAny (model prog w) A (.builtin "list.extend.loop" ⟨[.ref S, .ref s.heap.objs.size, res], []⟩) R { s with heap := h, toks := tk } := by
    intro h c₁ tk hit hk hS₁
    refine codeAny_extend_loopS W (by rw [sizeLine_eq]; omega) S hSf res n 0 _ #[] c₁ rfl (Nat.zero_le _) hit hS₁ (ItemsOf.nil _) fun s' acc' c' hm hS' hacc => ?_
    rw [Moved.eq_with hm]
    refine hR s'.heap s'.toks acc' c' (fun b o hb e => hm.heap b o (fun hmem => ?_) (hk b o hb e)) hS' hacc
    rcases List.mem_cons.mp hmem with e' | hmem
    · exact hb e'
    · exact absurd (Heap.lt_size e) (by rw [List.mem_singleton.mp hmem]; exact Nat.lt_irrefl _)
  unfold Builtin.List.listExtendWith
  refine wpAny_bind (wpAny_typeOf (T := "range") ⟨_, hr, rfl⟩ ?_)
  have h1 : Builtin.List.listSameRef (.ref S) (.ref r) = false := by simp [Builtin.List.listSameRef, hSr]
  have h2 : (Value.type "range" == Value.type "list") = false := by decide
  have h3 : (Value.type "range" == Value.type "tuple") = false := by decide
  simp only [h1, h2, h3, Bool.or_false, Bool.false_eq_true, if_false]
  refine wpAny_bind (wpAny_pyIter_longrange hr hsmall ?_)
  refine wpAny_bind (wpAny_holding (wpAny_hint_range (n := n) (Heap.get?_push_of_some _ hr) hn hlen ?_))
  have hit₁ : IsLongIter (s.heap.push { cls := .type "longrange_iterator", data := .fields #[rawInt a, rawInt (Builtin.Range.rangeSize a b c), rawInt c] }) s.heap.objs.size (a + ((0 : Nat) : Int) * c) ((n : Int) - ((0 : Nat) : Int)) c := by
    show IsLongIter _ _ _ _ _; rw [hn]; simpa using Heap.get?_push_size _ rfl
  have hS₁ := Heap.get?_push_of_some { cls := .type "longrange_iterator", data := .fields #[rawInt a, rawInt (Builtin.Range.rangeSize a b c), rawInt c] } hS
  refine wpAny_ite_split (fun _ => ?_) (fun _ => wpAny_pure ⟨plainId_quiet F.plain_extend_loop _, key _ c₀ _ hit₁ (fun b o _ e => Heap.get?_push_of_some _ e) hS₁⟩)
  refine wpAny_bind (wpAny_rule ?_)
  refine wpAny_bind ?_
  show wpAny _ _ (updateSeq S (·.push .none) >>= fun _ => updateSeq S (·.pop)) _ _ _
  refine wpAny_bind (wpAny_updateSeq hS₁ rfl ?_)
  have hS₂ := Heap.get?_update_self (Obj.mapSeq (·.push Value.none)) hS₁ rfl
  refine wpAny_updateSeq (hz := by first | seq_fits | (rw [sizeLine_eq]; decide)) hS₂ rfl ?_
  have hS₃ := Heap.get?_update_self (Obj.mapSeq (·.pop)) hS₂ rfl
  refine wpAny_pure ⟨plainId_quiet F.plain_extend_loop _, key _ _ _ ?_ (fun b o hb e => ?_) hS₃⟩
  · exact (Heap.get?_update_other _ _ hSI).trans ((Heap.get?_update_other _ _ hSI).trans hit₁)
  · exact (Heap.get?_update_other _ _ (Ne.symm hb)).trans ((Heap.get?_update_other _ _ (Ne.symm hb)).trans (Heap.get?_push_of_some _ e))

theorem list_init_long {R : Result → Shared → Prop} {r : Addr} {a b c : Int} {t u v : Tok} {n : Nat} (hh : A.handled = none) (hr : IsRange s.heap r a b c t u v) (hsmall : Builtin.Range.small a b c = false)
    (hn : Builtin.Range.rangeSize a b c = n) (hlen : n ≤ 2 ^ 24) (S : Addr) (hS : s.heap.get? S = some { cls := .type "list", data := .seq #[] })
    (hR : ∀ h' tk acc' c', (∀ b o, b ≠ S → s.heap.get? b = some o → h'.get? b = some o) → h'.get? S = some { cls := .type "list", dict := none, data := .seq acc' c', slots := #[] } →
      ItemsOf (fun i v => ∃ t, v = .int (a + i * c) t) acc' n → R (.ok (.ret .none)) { s with heap := h', toks := tk }) :
    wpAny (model prog w) A.in1 (Builtin.«list.__init__» ⟨[.ref S, .ref r], []⟩)
      (fun fin s' => match fin with | .done f => R (.ok f) s' | .again c' => c'.quiet = true ∧ codeAny (model prog w) A c' R s') (fun e s' => R (.error e) s') s := by
  have hSr : S ≠ r := fun e => by cases e; rw [hr] at hS; simp at hS
  show wpAny _ _ (do let old ← Builtin.List.listItems (.ref S); Builtin.List.listUpdate (.ref S) (fun _ => #[]); letGo old.toList.reverse; Builtin.List.listExtendWith (.ref S) (.ref r) .none) _ _ s
  refine wpAny_bind ?_
  unfold Builtin.List.listItems
  refine wpAny_bind (wpAny_seqItems hS rfl (wpAny_pure ?_))
  show wpAny _ _ (updateSeq S (fun _ => #[]) >>= fun _ => letGo (#[] : Array Value).toList.reverse >>= fun _ => Builtin.List.listExtendWith (.ref S) (.ref r) .none) _ _ s
  refine wpAny_bind (wpAny_updateSeq hS rfl ?_)
  have hS₂ := Heap.get?_update_self (Obj.mapSeq (fun _ => (#[] : Array Value))) hS rfl
  have oth : ∀ b o, b ≠ S → s.heap.get? b = some o → (s.heap.update S (Obj.mapSeq (fun _ => (#[] : Array Value)))).get? b = some o :=
    fun b o hb e => (Heap.get?_update_other _ _ (Ne.symm hb)).trans e
  refine wpAny_bind (wpAny_letGo ?_)
  refine extend_long hh (oth r _ (Ne.symm hSr) hr) hsmall hn hlen S .none _ hS₂ fun h' tk acc' c' hk hS' hacc => ?_
  exact hR h' tk acc' c' (fun b o hb e => hk b o hb (oth b o hb e)) hS' hacc

theorem call_list_long {Q : Value → Shared → Prop} {r : Addr} {a b c : Int} {t u v : Tok} {n : Nat} (hh : A.handled = none) (hr : IsRange s.heap r a b c t u v) (hsmall : Builtin.Range.small a b c = false)
    (hn : Builtin.Range.rangeSize a b c = n) (hlen : n ≤ 2 ^ 24)
    (hQ : ∀ h' tk acc' c', (∀ b o, s.heap.get? b = some o → h'.get? b = some o) →
      h'.get? s.heap.objs.size = some { cls := .type "list", dict := none, data := .seq acc' c', slots := #[] } → ItemsOf (fun i v => ∃ t, v = .int (a + i * c) t) acc' n → Q (.ref s.heap.objs.size) { s with heap := h', toks := tk }) :
    wpAny (model prog w) A (call (.type "list") [.ref r]) Q E s := by
  refine callType_codes (Q₁ := fun obj s₁ => obj = .ref s.heap.objs.size ∧ s₁ = { s with heap := s.heap.push { cls := .type "list", data := .seq #[] } }) F.called_list (F.typeCall_list_1 _) F.entry_list_init
    (code_list_new _ ⟨rfl, rfl⟩) fun obj s₁ h₁ => ?_
  obtain ⟨rfl, rfl⟩ := h₁
  have hS : (s.heap.push { cls := .type "list", data := .seq #[] }).get? s.heap.objs.size = some { cls := .type "list", data := .seq #[] } := Heap.get?_push_size _ rfl
  refine ⟨⟨_, hS, rfl⟩, F.args_list_init_2 _ _, list_init_long (A := A.in1) hh (Heap.get?_push_of_some _ hr) hsmall hn hlen _ hS fun h' tk acc' c' hk hS' hacc => ?_⟩
  exact ⟨rfl, hQ h' tk acc' c' (fun b o e => hk b o (Nat.ne_of_lt (Heap.lt_size e)) (Heap.get?_push_of_some _ e)) hS' hacc⟩

theorem call_list_rg {Q : Value → Shared → Prop} {r : Addr} {a b c : Int} {t u v : Tok} {n : Nat} (hh : A.handled = none) (hr : IsRange s.heap r a b c t u v)
    (hn : Builtin.Range.rangeSize a b c = n) (hlen : n ≤ 2 ^ 24)
    (hQ : ∀ h' tk acc' c', (∀ b o, s.heap.get? b = some o → h'.get? b = some o) →
      h'.get? s.heap.objs.size = some { cls := .type "list", dict := none, data := .seq acc' c', slots := #[] } → ItemsOf (fun i v => ∃ t, v = .int (a + i * c) t) acc' n → Q (.ref s.heap.objs.size) { s with heap := h', toks := tk }) :
    wpAny (model prog w) A (call (.type "list") [.ref r]) Q E s := by
  cases hs : Builtin.Range.small a b c with
  | true => exact call_list_range hh hr hs hn hlen hQ
  | false => exact call_list_long hh hr hs hn hlen hQ
end

section
variable {X : Cx} {tg : Expr} {e : Expr} {te : St → Hp → (Int → Int → Hp → Prop) → Prop}
def tLstRgA (te : St → Hp → (Int → Int → Hp → Prop) → Prop) : TE := fun σ H Q => te σ H fun a b H1 => (b - a).toNat ≤ 2 ^ 24 ∧ ∀ q, H1 q = none → Q (.ref q) (upd H1 q (.lst (rgV a b)))
theorem pe_listRgA {p pos : Pos} (hc : X.calm = true) (hg : Gl X "list") (hm : X.mg "list" = none) (he : PRg X e te) (na : starEach [e] X.env = (false, eval e X.env) :: starEach [] X.env := by rfl) : PE X (.Call (.Name "list" p) [e] [] pos) (tLstRgA te) := by
  refine ⟨fun pins s σ H Q I h => ?_⟩
  refine Call_ (ld_blt I hg hm boot_list (PyProof.Rows.callWith_type1 (args_cons (thn (he pins s σ H _ I h) fun x s1 ⟨r, a, b, t, u, v, H1, ex, hr, I1, ok, q⟩ => args_nil ?_) na) na))
  subst ex
  refine call_list_rg (n := (b - a).toNat) (I1.ok.hd hc) hr (rangeSize_nat a b) ok fun h' tk acc c' hk e' hi => ?_
  refine ⟨.ref s1.heap.objs.size, upd H1 s1.heap.objs.size (.lst (rgV a b)), I1.laid hk (Nat.le_refl _) (show ObjOk X.prog X.w _ _ _ (.lst (rgV a b)) from ⟨?_, acc.toList, c', vals_rg hi, ?_⟩), rfl, q _ (I1.hok.fresh (Nat.le_refl _))⟩
  · rw [rgV_length, sizeLine_eq]; omega
  · rw [Array.toArray_toList]; exact e'

theorem turn_long {P : Program} {w : World} {K : PySem.W.Frag} {tg : Expr} (it : Addr) (lo : Int) (n : Nat) : Turn P w K tg (Itr lo n) [it] it (fun i h => IsLongIter h it (lo + (i : Nat) * 1) ((n : Int) - (i : Nat)) 1) where
  mem := by simp
  obj := fun i h st b hb => by
    have e : b = it := by simpa using hb
    subst e
    exact ⟨_, st, fun v z => by
      have z' : Data.fields _ = Data.cell v := z
      cases z'⟩
  keep := fun i h h' st k => k it (by simp) _ st
  item := by
    intro X hP hw hK hc i pins s σ H E I hf st hg
    subst hP hw hK
    obtain ⟨f0, f1, f2, f3, f4, f5⟩ := hf it (by simp)
    have W := Walks.longrange (prog := X.prog) (w := X.w) (I.ok.hd hc) it lo 1 n
    refine W.item i s _ _ hg st fun v h' tk hv st' kk => ?_
    obtain ⟨t, rfl⟩ := hv
    have I1 : Inv X pins σ H { s with heap := h', toks := tk } := I.turned (fun b o hb e => kk b o (by simpa using hb) e) f0 f1 f3 f4 f5
    refine ⟨_, rfl, go_of (s := { s with heap := h', toks := tk }) (n := "longrange_iterator") st' rfl rfl (by decide) ⟨.int (lo + i), H, I1, ⟨t, ?_⟩, ⟨rfl, rfl⟩, st', fun b hb => (hf b hb).1⟩⟩
    rw [Int.mul_one]
  done := by
    intro X hP hw hK hc i pins s σ H E I hf st hg
    subst hP hw hK
    obtain ⟨f0, f1, f2, f3, f4, f5⟩ := hf it (by simp)
    exact wpAny_pyNext_long_end (I.ok.hd hc) st (by have : n ≤ i := hg; omega) fun h' eb => ⟨rfl, I.turned (t' := s.toks) (fun b o hb e => eb b o hb e) f0 f1 f3 f4 f5⟩
  self := fun _ _ _ _ _ st h => wpAny_pyIter_longiter st h

theorem range_itA {pins : List (Addr × Obj)} {σ : St} {H : Hp} {s : Shared} {R : It → Hp → Prop} {E : Value → Shared → Prop} {lo hi : Int} {t u v : Tok} {tk : Nat} (I : Inv X pins σ H s)
    (q : R (Itr lo (hi - lo).toNat) H) : wpAny (model X.prog X.w) X.A (pyIter (.ref s.heap.objs.size)) (PIE X pins σ tg R) E { s with heap := s.heap.push { cls := .type "range", data := .fields #[.int lo t, .int hi u, .int 1 v] }, toks := tk } := by
  have I1 : Inv X pins σ H { s with heap := s.heap.push { cls := .type "range", data := .fields #[.int lo t, .int hi u, .int 1 v] }, toks := tk } := I.kept fun b o e => Heap.get?_push_of_some _ e
  have e1 : lo + ((0 : Nat) : Int) * 1 = lo := by simp
  have e2 : (((hi - lo).toNat : Nat) : Int) - ((0 : Nat) : Int) = Builtin.Range.rangeSize lo hi 1 := by rw [rangeSize_one]; split <;> omega
  cases hs : Builtin.Range.small lo hi 1 with
  | true =>
    refine wpAny_pyIter_range (IsRange.new ..) hs ?_
    refine ⟨(s.heap.push { cls := .type "range", data := .fields #[.int lo t, .int hi u, .int 1 v] }).objs.size, [(s.heap.push { cls := .type "range", data := .fields #[.int lo t, .int hi u, .int 1 v] }).objs.size], _, _, H, rfl,
      I1.kept (t' := tk) fun b o e => Heap.get?_push_of_some _ e, turn_range _ lo (hi - lo).toNat, ?_, fun b hb => ?_, q⟩
    · show IsRangeIter _ _ (lo + ((0 : Nat) : Int) * 1) ((((hi - lo).toNat : Nat) : Int) - ((0 : Nat) : Int)) 1
      rw [e1, e2]
      exact Heap.get?_push_size _ rfl
    · have e : b = (s.heap.push { cls := .type "range", data := .fields #[.int lo t, .int hi u, .int 1 v] }).objs.size := by simpa using hb
      subst e
      exact I1.fpOk (Nat.le_refl _) (I1.hok.fresh (Nat.le_refl _))
  | false =>
    refine wpAny_pyIter_longrange (IsRange.new ..) hs ?_
    refine ⟨(s.heap.push { cls := .type "range", data := .fields #[.int lo t, .int hi u, .int 1 v] }).objs.size, [(s.heap.push { cls := .type "range", data := .fields #[.int lo t, .int hi u, .int 1 v] }).objs.size], _, _, H, rfl,
      I1.kept (t' := tk) fun b o e => Heap.get?_push_of_some _ e, turn_long _ lo (hi - lo).toNat, ?_, fun b hb => ?_, q⟩
    · show IsLongIter _ _ (lo + ((0 : Nat) : Int) * 1) ((((hi - lo).toNat : Nat) : Int) - ((0 : Nat) : Int)) 1
      rw [e1, e2]
      exact Heap.get?_push_size _ rfl
    · have e : b = (s.heap.push { cls := .type "range", data := .fields #[.int lo t, .int hi u, .int 1 v] }).objs.size := by simpa using hb
      subst e
      exact I1.fpOk (Nat.le_refl _) (I1.hok.fresh (Nat.le_refl _))
def iRngA1 (ta : TA) : TI := fun σ H R => ta σ H fun vs H1 => ∃ j : Int, vs = [.int j] ∧ R (Itr 0 j.toNat) H1
def iRngA2 (ta : TA) : TI := fun σ H R => ta σ H fun vs H1 => ∃ i j : Int, vs = [.int i, .int j] ∧ R (Itr i (j - i).toNat) H1
theorem pi_rangeA1 {a : Expr} {ta : TA} {p pos : Pos} (hg : Gl X "range") (hm : X.mg "range" = none) (ha : PA X [a] ta) (hs : starEach [a] X.env = [(false, eval a X.env)] := by rfl) : PI X tg (.Call (.Name "range" p) [a] [] pos) (iRngA1 ta) := by
  refine ⟨fun pins s σ H R I h => ?_⟩
  refine Call_ (ld_blt I hg hm boot_range (PyProof.Rows.callWith_type1 (thn (ha.run pos pins s σ H _ I h) fun us s1 ⟨vs, H1, I1, r1, q1⟩ => ?_) hs rfl))
  obtain ⟨j, e, q⟩ := q1
  subst e
  cases r1 with
  | cons r rr =>
    cases rr
    obtain ⟨t, rfl⟩ := r
    have q : R (Itr 0 (j - 0).toNat) H1 := by rw [Int.sub_zero]; exact q
    exact call_range_1 (range_itA I1 q)
theorem pi_rangeA2 {a b : Expr} {ta : TA} {p pos : Pos} (hg : Gl X "range") (hm : X.mg "range" = none) (ha : PA X [a, b] ta) (hs : starEach [a, b] X.env = [(false, eval a X.env), (false, eval b X.env)] := by rfl) (hs2 : starEach [b] X.env = [(false, eval b X.env)] := by rfl) :
    PI X tg (.Call (.Name "range" p) [a, b] [] pos) (iRngA2 ta) := by
  refine ⟨fun pins s σ H R I h => ?_⟩
  refine Call_ (ld_blt I hg hm boot_range (PyProof.Rows.callWith_type1 (thn (ha.run pos pins s σ H _ I h) fun us s1 ⟨vs, H1, I1, r1, q1⟩ => ?_) (by rw [hs, hs2]) (by rw [hs2]; rfl)))
  obtain ⟨i, j, e, q⟩ := q1
  subst e
  cases r1 with
  | cons r rr =>
    cases rr with
    | cons r' rr =>
      cases rr
      obtain ⟨t, rfl⟩ := r
      obtain ⟨t', rfl⟩ := r'
      exact call_range_2 (range_itA I1 q)
end
end Fv
end
section
namespace Fv
noncomputable section
open PySem

/-- a text: its codes -/
abbrev Tx := List Nat
def tx (s : String) : Tx := s.toList.map Char.toNat
/-- the text of a whole number -/
def itx (i : Int) : Tx := (Str.ofString (toString i)).cps.toList
def intOf (s : Tx) : Option Int := PySem.intText? ⟨s.toArray⟩

/-- plain data -/
inductive D where
  | non | bl (b : Bool) | int (i : Int) | str (s : Tx)
  | lst (xs : List D) | tup (xs : List D)
  | dic (ks vs : List D)
  /-- an instance: its class, its fields' names, their values -/
  | ins (c : String) (ns : List String) (xs : List D)
  /-- the script -/
  | scr (ns : List Int)

noncomputable instance : DecidableEq D := fun _ _ => Classical.propDecidable _

/-- what an expression gives: data, or a new list that is its asker's own -/
inductive Val where
  | d (x : D) | fr (xs : List D)
def Val.D : Val → D
  | .d x => x
  | .fr xs => .lst xs

inductive R (α : Type) where
  | ok (a : α) | er (c : String) (fs : List D) | bad
@[simp] def R.bind {α β : Type} : R α → (α → R β) → R β
  | .ok a, f => f a
  | .er c fs, _ => .er c fs
  | .bad, _ => .bad
instance : Monad R where
  pure := .ok
  bind := R.bind
@[simp] theorem R.pure_eq {α : Type} (a : α) : (pure a : R α) = .ok a := id rfl
@[simp] theorem R.ok_bind {α β : Type} (a : α) (f : α → R β) : (R.ok a >>= f) = f a := id rfl
@[simp] theorem R.er_bind {α β : Type} (c : String) (fs : List D) (f : α → R β) : ((R.er c fs : R α) >>= f) = .er c fs := id rfl
@[simp] theorem R.bad_bind {α β : Type} (f : α → R β) : ((R.bad : R α) >>= f) = .bad := id rfl

def optR {α β : Type} (o : Option α) (f : α → R β) : R β := match o with
  | some x => f x
  | none => .bad
abbrev LINE : Nat := 16777216
def D.flat : D → Bool
  | .non | .bl _ | .int _ | .str _ => true
  | _ => false
/-- no truths, no objects, n levels of lists and tuples at most -/
def D.cl : Nat → D → Bool
  | _, .non | _, .int _ => true
  | _, .str s => s.all (· < 128) && decide (s.length ≤ LINE)
  | n + 1, .lst xs => xs.all (D.cl n)
  | n + 1, .tup xs => xs.all (D.cl n)
  | _, _ => false
def Val.flat : Val → Bool
  | .d x => x.flat
  | .fr xs => xs.all D.flat
def D.truth : D → R Bool
  | .non => .ok false
  | .bl b => .ok b
  | .int i => .ok (i != 0)
  | .str s => if s.length ≤ LINE then .ok (!s.isEmpty) else .bad
  | .lst xs => .ok (!xs.isEmpty)
  | .tup xs => .ok (!xs.isEmpty)
  | _ => .bad

inductive BOp where
  | add | sub | mul | fdiv | mod | pow
  deriving DecidableEq
inductive COp where
  | eq | ne | lt | le | gt | ge | inn | nin | is | isn
  deriving DecidableEq
def mulOk (i j : Int) : Bool := decide (i.natAbs.log2 + j.natAbs.log2 < 100000000)
def powOk (i j : Int) : Bool := decide (0 ≤ j ∧ j ≤ 1000000 ∧ i.natAbs < 2 ^ 64)
def divOk (j : Int) : Bool := decide (0 < j ∧ j.natAbs.log2 < 9000)
/-- the place of an index among n -/
def ixOf (n : Nat) (i : Int) : Option Nat := if 0 ≤ i then (if i < n then some i.toNat else none) else if 0 ≤ i + n then some (i + n).toNat else none

def binD : BOp → D → D → R Val
  | .add, .int i, .int j => .ok (.d (.int (i + j)))
  | .add, .str a, .str b => if a.length + b.length ≤ LINE then .ok (.d (.str (a ++ b))) else .bad
  | .add, .lst a, .lst b => if a.length + b.length ≤ LINE then .ok (.fr (a ++ b)) else .bad
  | .add, .tup a, .tup b => if a.length + b.length ≤ LINE then .ok (.d (.tup (a ++ b))) else .bad
  | .sub, .int i, .int j => .ok (.d (.int (i - j)))
  | .mul, .int i, .int j => if mulOk i j then .ok (.d (.int (i * j))) else .bad
  | .mul, .lst a, .int j => if a.length * j.toNat ≤ LINE ∧ -(2 ^ 63) ≤ j ∧ j < 2 ^ 63 then .ok (.fr (List.replicate j.toNat a).flatten) else .bad
  | .mul, .str a, .int j => if a.length * j.toNat ≤ LINE ∧ a.length = 1 ∧ 0 ≤ j ∧ j ≤ 10000 then .ok (.d (.str (List.replicate j.toNat a).flatten)) else .bad
  | .fdiv, .int i, .int j => if divOk j then .ok (.d (.int (i / j))) else .bad
  | .mod, .int i, .int j => if 0 < j then .ok (.d (.int (i % j))) else .bad
  | .pow, .int i, .int j => if powOk i j then .ok (.d (.int (i ^ j.toNat))) else .bad
  | _, _, _ => .bad
/-- in place -/
def augD : BOp → D → D → R D
  | .add, .int i, .int j => .ok (.int (i + j))
  | .sub, .int i, .int j => .ok (.int (i - j))
  | _, _, _ => .bad
/-- what == may be asked of -/
def clb : D → Bool
  | .bl _ => true
  | x => x.cl 5
def eqD : D → D → R Bool
  | .bl a, .bl b => .ok (a == b)
  | .bl _, .int _ => .bad
  | .int _, .bl _ => .bad
  | a, b => if clb a && clb b then .ok (decide (a = b)) else .bad
def intsOf : List D → Option (List Int)
  | [] => some []
  | .int i :: r => (intsOf r).map (i :: ·)
  | _ => none
def ltTup (a b : List D) : R Bool := match intsOf a, intsOf b with
  | some x, some y => .ok (HT.lexLt x y)
  | _, _ => .bad
/-- a sign, a text within a text -/
def inTx (a b : Tx) : Bool := !(Builtin.Str.occurrences ⟨b.toArray⟩ ⟨a.toArray⟩ 0 b.length 1).isEmpty
def cmpD : COp → D → D → R Bool
  | .eq, a, b => eqD a b
  | .ne, a, b => do let c ← eqD a b; pure (!c)
  | .lt, .int i, .int j => .ok (decide (i < j))
  | .le, .int i, .int j => .ok (decide (i ≤ j))
  | .gt, .int i, .int j => .ok (decide (j < i))
  | .ge, .int i, .int j => .ok (decide (j ≤ i))
  | .lt, .tup a, .tup b => ltTup a b
  | .inn, .str a, .str b => .ok (inTx a b)
  | .nin, .str a, .str b => .ok (!inTx a b)
  | .inn, a, .lst xs => if a.cl 0 && xs.all (D.cl 0) then .ok (decide (a ∈ xs)) else .bad
  | .nin, a, .lst xs => if a.cl 0 && xs.all (D.cl 0) then .ok (!decide (a ∈ xs)) else .bad
  | .inn, a, .tup xs => if a.cl 0 && xs.all (D.cl 0) then .ok (decide (a ∈ xs)) else .bad
  | .nin, a, .tup xs => if a.cl 0 && xs.all (D.cl 0) then .ok (!decide (a ∈ xs)) else .bad
  | .is, a, .non => .ok (match a with | .non => true | _ => false)
  | .isn, a, .non => .ok (match a with | .non => false | _ => true)
  | .is, .bl a, .bl b => .ok (a == b)
  | .isn, .bl a, .bl b => .ok (!(a == b))
  | _, _, _ => .bad
def subD : D → D → R D
  | .lst xs, .int i => optR ((ixOf xs.length i).bind (xs[·]?)) (fun x => .ok x)
  | .tup xs, .int i => optR ((ixOf xs.length i).bind (xs[·]?)) (fun x => .ok x)
  | .scr ns, .int i => optR ((ixOf ns.length i).bind (ns[·]?)) (fun x => .ok (.int x))
  | .str s, .int i => if s.length ≤ LINE then (optR ((ixOf s.length i).bind (s[·]?)) (fun x => .ok (.str [x]))) else .bad
  | _, _ => .bad
/-- the items from lo to hi -/
def cut {α : Type} (xs : List α) (lo hi : Option Int) : List α := (xs.drop (HT.sIx xs.length 0 lo)).take (HT.sIx xs.length xs.length hi - HT.sIx xs.length 0 lo)
def slcD (x : D) (lo hi : Option Int) : R Val := match x with
  | .scr ns => .ok (.fr ((cut ns lo hi).map .int))
  | .lst xs => .ok (.fr (cut xs lo hi))
  | .str s => if s.length ≤ LINE then .ok (.d (.str (cut s lo hi))) else .bad
  | .tup xs => if HT.sIx xs.length 0 lo = 0 ∧ HT.sIx xs.length xs.length hi = xs.length then .bad else .ok (.d (.tup (cut xs lo hi)))
  | _ => .bad

inductive Bi where
  | len | int | str | abs | min2 | max2 | divmod | tuple | list | sum | all | any
  deriving DecidableEq
def allBl : List D → Option (List Bool)
  | [] => some []
  | .bl b :: r => (allBl r).map (b :: ·)
  | _ => none
def biD : Bi → List D → R Val
  | .len, [.lst xs] => .ok (.d (.int xs.length))
  | .len, [.scr xs] => .ok (.d (.int xs.length))
  | .len, [.tup xs] => .ok (.d (.int xs.length))
  | .len, [.str s] => if s.length ≤ LINE then .ok (.d (.int s.length)) else .bad
  | .int, [.int i] => .ok (.d (.int i))
  | .int, [.bl b] => .ok (.d (.int (if b then 1 else 0)))
  | .int, [.str s] => if s.length ≤ 640 then (optR (intOf s) (fun n => .ok (.d (.int n)))) else .bad
  | .str, [.str s] => .ok (.d (.str s))
  | .str, [.int i] => if i.natAbs.log2 < 1920 then .ok (.d (.str (itx i))) else .bad
  | .abs, [.int i] => .ok (.d (.int (if i < 0 then -i else i)))
  | .min2, [.int i, .int j] => .ok (.d (.int (if j < i then j else i)))
  | .max2, [.int i, .int j] => .ok (.d (.int (if j > i then j else i)))
  | .divmod, [.int i, .int j] => if 0 < j ∧ j < 1073741824 then .ok (.d (.tup [.int (i / j), .int (i % j)])) else .bad
  | .tuple, [.lst xs] => .ok (.d (.tup xs))
  | .tuple, [.tup xs] => .ok (.d (.tup xs))
  | .list, [.lst xs] => .ok (.fr xs)
  | .list, [.tup xs] => .ok (.fr xs)
  | .sum, [.lst xs] => optR (intsOf xs) (fun ns => .ok (.d (.int ns.sum)))
  | .all, [.lst xs] => optR (allBl xs) (fun bs => .ok (.d (.bl (bs.all id))))
  | .any, [.lst xs] => optR (allBl xs) (fun bs => .ok (.d (.bl (bs.any id))))
  | _, _ => .bad
/-- isinstance against a built-in class -/
def tyD : D → Option String
  | .non => some "NoneType"
  | .bl _ => some "bool"
  | .int _ => some "int"
  | .str _ => some "str"
  | .lst _ => some "list"
  | .tup _ => some "tuple"
  | _ => none
def isaT : List String := ["int", "bool", "str", "list", "tuple"]
def isaD (x : D) (t : String) : R Bool := match tyD x with
  | some u => if t ∈ isaT then .ok (u == t || (u == "bool" && t == "int")) else .bad
  | none => .bad

def fldD (cs : List String) (n : String) : D → R D
  | .ins c ns xs => if c ∈ cs then optR ((ns.zip xs).lookup n) .ok else .bad
  | _ => .bad
def clsOf (cs : List String) (m : String) : D → R String
  | .ins c ns _ => if c ∈ cs ∧ m ∉ ns then .ok c else .bad
  | _ => .bad
/-- what an __init__ has made -/
def newD (c : String) : Val → R Val
  | .d (.ins c' ns xs) => if c' = c then .ok (.d (.ins c' ns xs)) else .bad
  | _ => .bad
/-- methods of a text -/
inductive M1 where
  | split | join
  deriving DecidableEq
def strsOf : List D → Option (List Tx)
  | [] => some []
  | .str s :: r => (strsOf r).map (s :: ·)
  | _ => none
def m1D : M1 → Tx → D → R Val
  | .split, a, .str b => if b ≠ [] ∧ b.all (· < 256) = true ∧ a.length + 2 ≤ LINE then .ok (.fr ((TL.spl b 0 [] a).map .str)) else .bad
  | .join, a, .lst xs => optR (strsOf xs) fun ys => if (ys.map List.length).sum + ys.length * a.length ≤ LINE then .ok (.d (.str (TL.joinL a ys))) else .bad
  | _, _, _ => .bad

/-- a target: one name, or a tuple of names -/
inductive Tg where
  | one (i : Nat) | tup (is : List Nat)
mutual
inductive Ex where
  | var (i : Nat)
  | cst (x : D)
  | bin (o : BOp) (a b : Ex)
  | neg (a : Ex)
  | nt (a : Ex)
  | cmp (o : COp) (a b : Ex)
  | chn (o p : COp) (a b c : Ex)
  | and (a b : Ex)
  | or (a b : Ex)
  | ite (t a b : Ex)
  | tup (es : Exs)
  | lst (es : Exs)
  | sub (a i : Ex)
  | slc (a lo hi : Ex)
  | slcL (a lo : Ex)
  | slcH (a hi : Ex)
  | call (f : String) (es : Exs)
  | bi (b : Bi) (es : Exs)
  | isa (a : Ex) (c : String)
  | lc (own : List (Str × Nat)) (tg : Tg) (it : It) (c : Ex) (e : Ex)
  | m1 (m : M1) (a b : Ex)
  | rev (a : Ex)
  /-- list(range(b)), list(range(a, b)); a.count(b) -/
  | lrg1 (b : Ex)
  | lrg (a b : Ex)
  | cnt (a b : Ex)
  /-- a field; a method's call: of an instance of one of these classes -/
  | fld (cs : List String) (a : Ex) (n : String)
  | mth (cs : List String) (a : Ex) (m : String) (es : Exs)
  /-- a new instance -/
  | mk (c : String) (es : Exs)
inductive Exs where
  | nil | cons (e : Ex) (r : Exs)
inductive It where
  | seq (e : Ex)
  | rng (a : Ex)
  | rng2 (a b : Ex)
  | rng3 (a b c : Ex)
  | revs (a : Ex)
  | enum (e : Ex)
end
mutual
inductive Sm where
  | set (i : Nat) (e : Ex)
  | setT (is : List Nat) (e : Ex)
  | aug (i : Nat) (o : BOp) (e : Ex)
  | app (i : Nat) (e : Ex)
  | put (i : Nat) (k e : Ex)
  | ext (i : Nat) (e : Ex)
  /-- i = j: the list of j's own is i's from here on, j's value is not asked again -/
  | mov (i j : Nat)
  | ifs (t : Ex) (a b : Sms)
  | whl (t : Ex) (b : Sms)
  | for_ (tg : Tg) (it : It) (b : Sms)
  | ret (e : Ex)
  | exp (e : Ex)
  | brk | cnt | pas
  /-- never come to -/
  | nev
  /-- in an __init__: self.n = e; the base's __init__ -/
  | fst (cs : List String) (n : String) (e : Ex)
  | ini (b : String) (es : Exs)
inductive Sms where
  | nil | cons (s : Sm) (r : Sms)
  /-- the list in slot i is from here on nobody's own -/
  | frz (i : Nat) (r : Sms)
end

inductive Sl where
  | no | fz (x : D) | own (xs : List D)
abbrev Sg := List Sl
def Sg.get (S : Sg) (i : Nat) : R D := match S[i]? with
  | some (.fz x) => .ok x
  | _ => .bad
/-- read where nothing of it is kept -/
def Sg.look (S : Sg) (i : Nat) : R D := match S[i]? with
  | some (.fz x) => .ok x
  | some (.own xs) => .ok (.lst xs)
  | _ => .bad
def Sg.isOwn (S : Sg) (i : Nat) : Bool := match S[i]? with
  | some (.own _) => true
  | _ => false
def wipeS (S : Sg) : List Nat → Sg
  | [] => S
  | v :: vs => (wipeS S vs).set v .no
def setAll : List Nat → List D → Sg → R Sg
  | [], [], S => .ok S
  | i :: is, x :: xs, S => setAll is xs (S.set i (.fz x))
  | _, _, _ => .bad
def Tg.set : Tg → D → Sg → R Sg
  | .one i, x, S => .ok (S.set i (.fz x))
  | .tup is, .tup xs, S => setAll is xs S
  | .tup is, .lst xs, S => setAll is xs S
  | _, _, _ => .bad
def Val.sl : Val → Sl
  | .d x => .fz x
  | .fr xs => .own xs
/-- nothing may be raised here -/
def R.noEr {α : Type} : R α → R α
  | .ok a => .ok a
  | _ => .bad
/-- the loop of a comprehension -/
def compL (tg : Tg) (S : Sg) (c : Sg → R Bool) (e : Sg → R D) : List D → List D → R (List D)
  | [], acc => .ok acc
  | x :: xs, acc => do
    let S1 ← tg.set x S
    let b ← (c S1).noEr
    if b then
      let y ← (e S1).noEr
      compL tg S c e xs (acc ++ [y])
    else compL tg S c e xs acc
def isVar : Ex → Option Nat
  | .var i => some i
  | _ => none
def rngD (lo hi : Int) : R (List D) := .ok ((List.range (hi - lo).toNat).map fun k => .int (lo + (k : Nat)))

/-- the functions that stand: what each gives -/
abbrev Fns := String → List D → R Val

/-- .. where nothing of it is kept: a list of one's own may be read -/
def lookE (e : Ex) (S : Sg) (v : R Val) : R D := match e with
  | .var i => S.look i
  | _ => do let x ← v; pure x.D
def andV (b : R Val) (v : Val) (k : Bool) : R Val := if k then b else .ok v
def ownE (e : Ex) (S : Sg) : Bool := match e with
  | .var i => S.isOwn i
  | _ => false
def anyOwn : Exs → Sg → Bool
  | .nil, _ => false
  | .cons e r, S => ownE e S || anyOwn r S
def D.int? : D → R Int
  | .int i => .ok i
  | _ => .bad
/-- what a for goes through -/
def D.seq? : D → R (List D)
  | .lst xs => .ok xs
  | .tup xs => .ok xs
  | .str s => .ok (s.map fun c => .str [c])
  | .scr ns => .ok (ns.map .int)
  | _ => .bad
def D.str? : D → R Tx
  | .str s => .ok s
  | _ => .bad
/-- numbered items -/
def numD : Nat → List D → List D
  | _, [] => []
  | i, x :: r => .tup [.int (i : Nat), x] :: numD (i + 1) r
def enumD : D → R (List D)
  | .lst xs => .ok (numD 0 xs)
  | _ => .bad
/-- a step range -/
def rng3D (i j c : Int) : R (List D) := if c ≠ 0 ∧ c.natAbs < 1073741824 ∧ Builtin.Range.small i j c = true ∧ 0 ≤ Builtin.Range.rangeSize i j c then .ok ((List.range (Builtin.Range.rangeSize i j c).toNat).map fun k => .int (i + (k : Nat) * c)) else .bad
/-- list(range(i, j)) -/
def lrgD (i j : Int) : R Val := if (j - i).toNat ≤ LINE then .ok (.fr ((List.range (j - i).toNat).map fun k => .int (i + (k : Nat)))) else .bad
/-- how often k stands among whole numbers -/
def lsI : D → R (List Int)
  | .lst xs => optR (intsOf xs) .ok
  | _ => .bad
def cntD (ns : List Int) (k : Int) : R Val := .ok (.d (.int (ns.count k : Nat)))
/-- turned about -/
def revD : D → R Val
  | .lst xs => .ok (.fr xs.reverse)
  | _ => .bad
def revsD : D → R (List D)
  | .lst xs => .ok xs.reverse
  | .tup xs => .ok xs.reverse
  | _ => .bad
def kept (b : Bool) (v : Val) : R Val := if b && !v.flat then .bad else .ok v

section
variable (Γ : Fns)
mutual
def ev : Ex → Sg → R Val
  | .var i, S => S.get i >>= fun x => .ok (.d x)
  | .cst x, _ => .ok (.d x)
  | .bin o a b, S => lookE a S (ev a S) >>= fun x => lookE b S (ev b S) >>= fun y => binD o x y
  | .neg a, S => lookE a S (ev a S) >>= fun x => x.int? >>= fun i => .ok (.d (.int (-i)))
  | .nt a, S => lookE a S (ev a S) >>= fun x => x.truth >>= fun k => .ok (.d (.bl (!k)))
  | .cmp o a b, S => lookE a S (ev a S) >>= fun x => lookE b S (ev b S) >>= fun y => cmpD o x y >>= fun c => .ok (.d (.bl c))
  | .chn o p a b c, S => lookE a S (ev a S) >>= fun x => lookE b S (ev b S) >>= fun y => cmpD o x y >>= fun k =>
      if k then lookE c S (ev c S) >>= fun z => cmpD p y z >>= fun l => .ok (.d (.bl l)) else .ok (.d (.bl false))
  | .and a b, S => ev a S >>= fun v => v.D.truth >>= fun k => if k then ev b S else .ok v
  | .or a b, S => ev a S >>= fun v => v.D.truth >>= fun k => if k then .ok v else ev b S
  | .ite t a b, S => lookE t S (ev t S) >>= fun x => x.truth >>= fun k => if k then ev a S else ev b S
  | .tup es, S => evs es S >>= fun xs => if xs.length ≤ LINE then .ok (.d (.tup xs)) else .bad
  | .lst es, S => evs es S >>= fun xs => if xs.length ≤ LINE then .ok (.fr xs) else .bad
  | .sub a i, S => lookE a S (ev a S) >>= fun x => lookE i S (ev i S) >>= fun k => subD x k >>= fun y => .ok (.d y)
  | .slc a lo hi, S => lookE a S (ev a S) >>= fun x => lookE lo S (ev lo S) >>= fun l => l.int? >>= fun i => lookE hi S (ev hi S) >>= fun h => h.int? >>= fun j => slcD x (some i) (some j)
  | .slcL a lo, S => lookE a S (ev a S) >>= fun x => lookE lo S (ev lo S) >>= fun l => l.int? >>= fun i => slcD x (some i) none
  | .slcH a hi, S => lookE a S (ev a S) >>= fun x => lookE hi S (ev hi S) >>= fun h => h.int? >>= fun j => slcD x none (some j)
  | .call f es, S => evsL es S >>= fun xs => Γ f xs >>= fun v => kept (anyOwn es S) v
  | .bi b es, S => evsL es S >>= fun xs => biD b xs >>= fun v => .ok v
  | .isa a c, S => lookE a S (ev a S) >>= fun x => isaD x c >>= fun k => .ok (.d (.bl k))
  | .lc own tg it c e, S => evI it S >>= fun xs => if xs.length ≤ LINE then
      compL tg (wipeS S (own.map (·.2))) (fun S1 => lookE c S1 (ev c S1) >>= fun x => x.truth) (fun S1 => ev e S1 >>= fun v => .ok v.D) xs [] >>= fun ys => .ok (.fr ys) else .bad
  | .fld cs a n, S => lookE a S (ev a S) >>= fun x => fldD cs n x >>= fun y => .ok (.d y)
  | .mth cs a m es, S => lookE a S (ev a S) >>= fun x => clsOf cs m x >>= fun c => evsL es S >>= fun xs => Γ (c ++ "." ++ m) (x :: xs) >>= fun v => kept (anyOwn es S) v
  | .mk c es, S => evs es S >>= fun xs => (Γ (c ++ ".__init__") (.ins c [] [] :: xs)).noEr >>= fun v => newD c v
  | .m1 m a b, S => lookE a S (ev a S) >>= fun x => x.str? >>= fun s => lookE b S (ev b S) >>= fun y => m1D m s y
  | .rev a, S => lookE a S (ev a S) >>= fun x => revD x
  | .lrg1 b, S => lookE b S (ev b S) >>= fun y => y.int? >>= fun j => lrgD 0 j
  | .lrg a b, S => lookE a S (ev a S) >>= fun x => x.int? >>= fun i => lookE b S (ev b S) >>= fun y => y.int? >>= fun j => lrgD i j
  | .cnt a b, S => lookE a S (ev a S) >>= fun x => lsI x >>= fun ns => lookE b S (ev b S) >>= fun y => y.int? >>= fun k => cntD ns k
def evs : Exs → Sg → R (List D)
  | .nil, _ => .ok []
  | .cons e r, S => ev e S >>= fun v => evs r S >>= fun xs => .ok (v.D :: xs)
def evsL : Exs → Sg → R (List D)
  | .nil, _ => .ok []
  | .cons e r, S => lookE e S (ev e S) >>= fun x => evsL r S >>= fun xs => .ok (x :: xs)
def evI : It → Sg → R (List D)
  | .seq e, S => ev e S >>= fun v => v.D.seq?
  | .rng a, S => lookE a S (ev a S) >>= fun x => x.int? >>= fun j => rngD 0 j
  | .enum e, S => ev e S >>= fun v => enumD v.D
  | .rng2 a b, S => lookE a S (ev a S) >>= fun x => x.int? >>= fun i => lookE b S (ev b S) >>= fun y => y.int? >>= fun j => rngD i j
  | .rng3 a b c, S => lookE a S (ev a S) >>= fun x => x.int? >>= fun i => lookE b S (ev b S) >>= fun y => y.int? >>= fun j => lookE c S (ev c S) >>= fun z => z.int? >>= fun k => rng3D i j k
  | .revs e, S => ev e S >>= fun v => revsD v.D
end
def evL (e : Ex) (S : Sg) : R D := lookE e S (ev Γ e S)
def evT (e : Ex) (S : Sg) : R Bool := evL Γ e S >>= fun x => x.truth

inductive Out where
  | nx (S : Sg) | rt (v : Val) | bk (S : Sg) | ct (S : Sg) | er (c : String) (fs : List D) | bad
def Out.of {α : Type} (r : R α) (f : α → Out) : Out := match r with
  | .ok a => f a
  | .er c fs => .er c fs
  | .bad => .bad
@[simp] theorem Out.of_ok {α : Type} (a : α) (f : α → Out) : Out.of (.ok a) f = f a := id rfl
@[simp] theorem Out.of_er {α : Type} (c : String) (fs : List D) (f : α → Out) : Out.of (.er c fs) f = .er c fs := id rfl
@[simp] theorem Out.of_bad {α : Type} (f : α → Out) : Out.of .bad f = .bad := id rfl
def forL (tg : Tg) (b : Sg → Out) : List D → Sg → Out
  | [], S => .nx S
  | x :: xs, S => Out.of (tg.set x S) fun S1 => match b S1 with
    | .nx S2 => forL tg b xs S2
    | .ct S2 => forL tg b xs S2
    | .bk S2 => .nx S2
    | o => o
/-- at most n turns -/
def whlL (t : Sg → R Bool) (b : Sg → Out) : Nat → Sg → Out
  | 0, _ => .bad
  | n + 1, S => Out.of (t S) fun k => if k then (match b S with
    | .nx S2 => whlL t b n S2
    | .ct S2 => whlL t b n S2
    | .bk S2 => .nx S2
    | o => o) else .nx S
def FUEL : Nat := 2 ^ 64
def frzS (S : Sg) (i : Nat) : Sg := match S[i]? with
  | some (.own xs) => S.set i (.fz (.lst xs))
  | _ => S
mutual
def exe : Sm → Sg → Out
  | .set i e, S => Out.of (ev Γ e S) fun v => .nx (S.set i v.sl)
  | .setT is e, S => Out.of (ev Γ e S) fun v => Out.of ((Tg.tup is).set v.D S) fun S1 => .nx S1
  | .aug i o e, S => Out.of (S.get i) fun x => Out.of (evL Γ e S) fun y => Out.of (augD o x y) fun v => .nx (S.set i (.fz v))
  | .app i e, S => match S[i]? with
    | some (.own xs) => Out.of (ev Γ e S) fun v => if xs.length < LINE then .nx (S.set i (.own (xs ++ [v.D]))) else .bad
    | _ => .bad
  | .put i k e, S => match S[i]? with
    | some (.own xs) => Out.of (ev Γ e S) fun v => Out.of (evL Γ k S) fun x => Out.of x.int? fun j => Out.of (optR (ixOf xs.length j) .ok) fun n => .nx (S.set i (.own (xs.set n v.D)))
    | _ => .bad
  | .ext i e, S => match S[i]? with
    | some (.own xs) => Out.of (evL Γ e S) fun y => match y with
      | .lst zs => if xs.length + zs.length ≤ LINE then .nx (S.set i (.own (xs ++ zs))) else .bad
      | _ => .bad
    | _ => .bad
  | .mov i j, S => match S[j]? with
    | some (.own xs) => if i ≠ j then .nx ((S.set j .no).set i (.own xs)) else .bad
    | _ => .bad
  | .ifs t a b, S => Out.of (evT Γ t S) fun k => if k then exes a S else exes b S
  | .whl t b, S => whlL (fun S => evT Γ t S) (fun S => exes b S) FUEL S
  | .for_ tg it b, S => Out.of (evI Γ it S) fun xs => forL tg (fun S => exes b S) xs S
  | .ret e, S => match e with
    | .var i => (match S[i]? with
      | some (.own xs) => .rt (.fr xs)
      | some (.fz x) => .rt (.d x)
      | _ => .bad)
    | e => Out.of (ev Γ e S) fun v => .rt v
  | .exp e, S => Out.of (ev Γ e S) fun _ => .nx S
  | .brk, S => .bk S
  | .cnt, S => .ct S
  | .pas, S => .nx S
  | .nev, _ => .bad
  | .fst _ _ _, _ => .bad
  | .ini _ _, _ => .bad
def exes : Sms → Sg → Out
  | .nil, S => .nx S
  | .cons s r, S => match exe s S with
    | .nx S1 => exes r S1
    | o => o
  | .frz i r, S => exes r (frzS S i)
end
/-- a def: its slots (parameters first), its defaults, its body -/
structure Df where
  np : Nat
  nl : Nat
  dfl : List D
  body : Sms
def Out.val : Out → R Val
  | .nx _ => .ok (.d .non)
  | .rt v => .ok v
  | .er c fs => .er c fs
  | _ => .bad
def isIni : Sms → Bool
  | .cons (.fst _ _ _) _ => true
  | .cons (.ini _ _) _ => true
  | _ => false
/-- an __init__'s body: the instance so far -/
def iexe : Sms → Sg → String → List String → List D → R Val
  | .nil, _, c, ns, xs => .ok (.d (.ins c ns xs))
  | .cons (.fst cs n e) r, S, c, ns, xs => if c ∈ cs ∧ n ∉ ns ∧ ns.length < 50 then ev Γ e S >>= fun v => iexe r S c (ns ++ [n]) (xs ++ [v.D]) else .bad
  | .cons (.ini b es) r, S, c, ns, xs => evs Γ es S >>= fun ds => (Γ (b ++ ".__init__") (.ins c ns xs :: ds)).noEr >>= fun v => match v with
    | .d (.ins c' ns' xs') => if c' = c then iexe r S c ns' xs' else .bad
    | _ => .bad
  | _, _, _, _, _ => .bad
def runI (d : Df) : List D → R Val
  | .ins c ns fs :: xs => if xs.length + 1 = d.np then iexe Γ d.body (.no :: xs.map Sl.fz ++ List.replicate (d.nl - d.np) Sl.no) c ns fs else .bad
  | _ => .bad
def run (d : Df) (xs : List D) : R Val :=
  if isIni d.body = true then runI Γ d xs else
  if xs.length ≤ d.np ∧ d.np ≤ xs.length + d.dfl.length then
    (exes Γ d.body ((xs ++ d.dfl.drop (xs.length + d.dfl.length - d.np)).map Sl.fz ++ List.replicate (d.nl - d.np) Sl.no)).val
  else .bad
end
end
end Fv
end
section
namespace Fv
open PySem L2

mutual
/-- x lies at v, all of it in F -/
def Rp (K : PySem.W.Frag) (F : Hp) : D → V → Prop
  | .non, v => v = .non
  | .bl b, v => v = .bl b
  | .int i, v => v = .int i
  | .str s, v => v = .str ⟨s.toArray⟩
  | .lst xs, v => ∃ a vs, v = .ref a ∧ F a = some (.lst vs) ∧ RpL K F xs vs
  | .tup xs, v => ∃ a vs, v = .ref a ∧ F a = some (.tup vs) ∧ RpL K F xs vs
  | .dic _ _, _ => False
  | .ins c ns xs, v => ∃ a dx fsV vs, v = .ref a ∧ F a = some (.ins (He.ga K (Str.ofString c)) dx fsV) ∧ RpL K F xs vs ∧ ns.length = xs.length ∧ ∀ n : Str, fsV.lookup n = ((ns.map Str.ofString).zip vs).lookup n
  | .scr ns, v => ∃ a, v = .ref a ∧ SqL K F a (ns.map V.int)
def RpL (K : PySem.W.Frag) (F : Hp) : List D → List V → Prop
  | [], vs => vs = []
  | x :: xs, vs => ∃ v r, vs = v :: r ∧ Rp K F x v ∧ RpL K F xs r
end
section
variable {K : PySem.W.Frag} {F F' : Hp}
mutual
theorem Rp.mono (e : Same F F') : ∀ (x : D) (v : V), Rp K F x v → Rp K F' x v
  | .non, _, h => h
  | .bl _, _, h => h
  | .int _, _, h => h
  | .str _, _, h => h
  | .lst xs, _, h => by
    rw [Rp] at h ⊢
    obtain ⟨a, vs, e1, e2, e3⟩ := h
    exact ⟨a, vs, e1, e _ _ e2, RpL.mono e xs vs e3⟩
  | .tup xs, _, h => by
    rw [Rp] at h ⊢
    obtain ⟨a, vs, e1, e2, e3⟩ := h
    exact ⟨a, vs, e1, e _ _ e2, RpL.mono e xs vs e3⟩
  | .dic _ _, _, h => by rw [Rp] at h; exact h.elim
  | .ins c ns xs, _, h => by
    rw [Rp] at h ⊢
    obtain ⟨a, dx, fsV, vs, e1, e2, e3, e4, e5⟩ := h
    exact ⟨a, dx, fsV, vs, e1, e _ _ e2, RpL.mono e xs vs e3, e4, e5⟩
  | .scr ns, _, h => by
    rw [Rp] at h ⊢
    obtain ⟨a, e1, e2⟩ := h
    exact ⟨a, e1, e.seq e2⟩
theorem RpL.mono (e : Same F F') : ∀ (xs : List D) (vs : List V), RpL K F xs vs → RpL K F' xs vs
  | [], _, h => by rw [RpL] at h ⊢; exact h
  | x :: xs, _, h => by
    rw [RpL] at h ⊢
    obtain ⟨v, r, e1, e2, e3⟩ := h
    exact ⟨v, r, e1, Rp.mono e x v e2, RpL.mono e xs r e3⟩
end
theorem RpL.nil : RpL K F [] [] := by rw [RpL]
theorem RpL.cons {x : D} {xs : List D} {v : V} {vs : List V} (h : Rp K F x v) (t : RpL K F xs vs) : RpL K F (x :: xs) (v :: vs) := by rw [RpL]; exact ⟨v, vs, rfl, h, t⟩
theorem RpL.len : ∀ {xs : List D} {vs : List V}, RpL K F xs vs → xs.length = vs.length
  | [], _, h => by rw [RpL] at h; rw [h]; rfl
  | x :: xs, _, h => by
    rw [RpL] at h
    obtain ⟨v, r, e1, _, e3⟩ := h
    rw [e1, List.length_cons, List.length_cons, RpL.len e3]
theorem RpL.get : ∀ {xs : List D} {vs : List V} {i : Nat} {x : D}, RpL K F xs vs → xs[i]? = some x → ∃ v, vs[i]? = some v ∧ Rp K F x v
  | [], _, _, _, _, e => by simp at e
  | y :: xs, _, i, x, h, e => by
    rw [RpL] at h
    obtain ⟨v, r, rfl, h1, h2⟩ := h
    cases i with
    | zero =>
      rw [List.getElem?_cons_zero] at e
      cases e
      exact ⟨v, rfl, h1⟩
    | succ i =>
      rw [List.getElem?_cons_succ] at e
      obtain ⟨w, e1, e2⟩ := RpL.get h2 e
      exact ⟨w, by rw [List.getElem?_cons_succ]; exact e1, e2⟩
theorem RpL.app : ∀ {xs ys : List D} {vs ws : List V}, RpL K F xs vs → RpL K F ys ws → RpL K F (xs ++ ys) (vs ++ ws)
  | [], _, _, _, h, g => by rw [RpL] at h; rw [h]; exact g
  | x :: xs, _, _, _, h, g => by
    rw [RpL] at h
    obtain ⟨v, r, rfl, h1, h2⟩ := h
    exact RpL.cons h1 (RpL.app h2 g)
theorem RpL.drop : ∀ {xs : List D} {vs : List V} (n : Nat), RpL K F xs vs → RpL K F (xs.drop n) (vs.drop n)
  | _, _, 0, h => h
  | [], _, n + 1, h => by rw [RpL] at h; rw [h]; exact RpL.nil
  | x :: xs, _, n + 1, h => by
    rw [RpL] at h
    obtain ⟨v, r, rfl, h1, h2⟩ := h
    exact RpL.drop n h2
theorem RpL.take : ∀ {xs : List D} {vs : List V} (n : Nat), RpL K F xs vs → RpL K F (xs.take n) (vs.take n)
  | _, _, 0, _ => RpL.nil
  | [], _, n + 1, h => by rw [RpL] at h; rw [h]; exact RpL.nil
  | x :: xs, _, n + 1, h => by
    rw [RpL] at h
    obtain ⟨v, r, rfl, h1, h2⟩ := h
    exact RpL.cons h1 (RpL.take n h2)
theorem RpL.set : ∀ {xs : List D} {vs : List V} {x : D} {v : V} (n : Nat), RpL K F xs vs → Rp K F x v → RpL K F (xs.set n x) (vs.set n v)
  | [], _, _, _, n, h, _ => by rw [RpL] at h; rw [h]; exact RpL.nil
  | y :: xs, _, _, _, 0, h, g => by
    rw [RpL] at h
    obtain ⟨v, r, rfl, h1, h2⟩ := h
    exact RpL.cons g h2
  | y :: xs, _, _, _, n + 1, h, g => by
    rw [RpL] at h
    obtain ⟨v, r, rfl, h1, h2⟩ := h
    exact RpL.cons h1 (RpL.set n h2 g)
theorem RpL.rep {xs : List D} {vs : List V} (h : RpL K F xs vs) : ∀ n : Nat, RpL K F (List.replicate n xs).flatten (List.replicate n vs).flatten
  | 0 => RpL.nil
  | n + 1 => by
    rw [List.replicate_succ, List.replicate_succ, List.flatten_cons, List.flatten_cons]
    exact h.app (RpL.rep h n)
theorem Rp.flat {x : D} {v : V} (hf : x.flat = true) (h : Rp K F x v) (F' : Hp) : Rp K F' x v := by
  cases x with
  | non => exact h
  | bl b => exact h
  | int b => exact h
  | str b => exact h
  | _ => exact absurd (show false = true from hf) Bool.false_ne_true
theorem RpL.flat : ∀ {xs : List D} {vs : List V}, xs.all D.flat = true → RpL K F xs vs → ∀ F' : Hp, RpL K F' xs vs
  | [], _, _, h, _ => by rw [RpL] at h ⊢; exact h
  | x :: xs, _, hf, h, F' => by
    rw [RpL] at h
    obtain ⟨v, r, rfl, h1, h2⟩ := h
    rw [List.all_cons, Bool.and_eq_true] at hf
    exact RpL.cons (h1.flat hf.1 F') (RpL.flat hf.2 h2 F')
/-- ints -/
theorem RpL.ints : ∀ {xs : List D} {vs : List V} {ns : List Int}, RpL K F xs vs → intsOf xs = some ns → vs = ns.map V.int
  | [], _, ns, h, e => by
    rw [RpL] at h
    rw [intsOf] at e
    cases e
    rw [h]; rfl
  | x :: xs, _, ns, h, e => by
    rw [RpL] at h
    obtain ⟨v, r, rfl, h1, h2⟩ := h
    cases x with
    | int i =>
      rw [intsOf] at e
      cases q : intsOf xs with
      | none => rw [q] at e; cases e
      | some ms =>
        rw [q] at e
        cases e
        rw [Rp] at h1
        rw [h1, RpL.ints h2 q]; rfl
    | _ => simp [intsOf] at e
theorem RpL.bls : ∀ {xs : List D} {vs : List V} {bs : List Bool}, RpL K F xs vs → allBl xs = some bs → vs = bs.map V.bl
  | [], _, ns, h, e => by
    rw [RpL] at h
    rw [allBl] at e
    cases e
    rw [h]; rfl
  | x :: xs, _, ns, h, e => by
    rw [RpL] at h
    obtain ⟨v, r, rfl, h1, h2⟩ := h
    cases x with
    | bl i =>
      rw [allBl] at e
      cases q : allBl xs with
      | none => rw [q] at e; cases e
      | some ms =>
        rw [q] at e
        cases e
        rw [Rp] at h1
        rw [h1, RpL.bls h2 q]; rfl
    | _ => simp [allBl] at e
end

/-- F: what may be kept; H: all -/
structure Grow (F F' H H' : Hp) : Prop where
  f : Same F F'
  fh : Same F' H'
  h : Same H H'
  new : ∀ a, F' a ≠ none → F a ≠ none ∨ H a = none
theorem Grow.refl {F H : Hp} (e : Same F H) : Grow F F H H := ⟨Same.refl F, e, Same.refl H, fun _ h => .inl h⟩
theorem Grow.trans {F F1 F2 H H1 H2 : Hp} (a : Grow F F1 H H1) (b : Grow F1 F2 H1 H2) : Grow F F2 H H2 :=
  ⟨a.f.trans b.f, b.fh, a.h.trans b.h, fun p hp => by
    rcases b.new p hp with q | q
    · exact a.new p q
    · exact .inr (a.h.free q)⟩
theorem Grow.non {F F' H H' : Hp} (g : Grow F F' H H') {p : Addr} (hf : F p = none) (hh : H p ≠ none) : F' p = none := by
  cases q : F' p with
  | none => rfl
  | some o =>
    rcases g.new p (by rw [q]; exact fun z => nomatch z) with z | z
    · exact absurd hf z
    · exact absurd z hh
theorem same_upd {H : Hp} {p : Addr} {o : HO} (h : H p = none) : Same H (upd H p o) := fun b x e => by
  rw [upd_ne (ne_of_none e h)]
  exact e
theorem same_upd2 {F H : Hp} {p : Addr} {o : HO} (h : Same F H) (hf : F p = none) : Same F (upd H p o) := fun b x e => by
  rw [upd_ne (ne_of_none e hf)]
  exact h b x e
theorem same_both {F H : Hp} {p : Addr} {o : HO} (h : Same F H) : Same (upd F p o) (upd H p o) := fun b x e => by
  by_cases hb : b = p
  · subst hb
    rw [upd_same] at e ⊢
    exact e
  · rw [upd_ne hb] at e ⊢
    exact h b x e
/-- a new object, kept -/
theorem Grow.newF {F H : Hp} {p : Addr} {o : HO} (e : Same F H) (hp : H p = none) : Grow F (upd F p o) H (upd H p o) :=
  ⟨same_upd (e.free hp), same_both e, same_upd hp, fun a ha => by
    by_cases h : a = p
    · subst h; exact .inr hp
    · rw [upd_ne h] at ha; exact .inl ha⟩
/-- a new object, not kept as yet -/
theorem Grow.newH {F H : Hp} {p : Addr} {o : HO} (e : Same F H) (hp : H p = none) : Grow F F H (upd H p o) :=
  ⟨Same.refl F, same_upd2 e (e.free hp), same_upd hp, fun _ h => .inl h⟩

/-- what an expression has given -/
def VR (K : PySem.W.Frag) (F' H H' : Hp) : Val → V → Prop
  | .d x, v => Rp K F' x v
  | .fr xs, v => ∃ p vs, v = .ref p ∧ H p = none ∧ H' p = some (.lst vs) ∧ F' p = none ∧ RpL K F' xs vs
/-- .. where nothing of it is kept -/
def LR (K : PySem.W.Frag) (F H : Hp) : D → V → Prop
  | .lst xs, v => ∃ a vs, v = .ref a ∧ H a = some (.lst vs) ∧ RpL K F xs vs
  | x, v => Rp K F x v
section
variable {K : PySem.W.Frag} {F F' H H' H0 : Hp}
theorem LR.of {x : D} {v : V} (e : Same F H) (h : Rp K F x v) : LR K F H x v := by
  cases x <;> first
    | exact h
    | (rw [Rp] at h
       obtain ⟨a, vs, e1, e2, e3⟩ := h
       exact ⟨a, vs, e1, e _ _ e2, e3⟩)
theorem LR.full {x : D} {v : V} (e : Same F H) (h : LR K F H x v) : Rp K H x v := by
  cases x <;> first
    | exact Rp.mono e _ _ h
    | (obtain ⟨a, vs, e1, e2, e3⟩ := h
       rw [Rp]
       exact ⟨a, vs, e1, e2, RpL.mono e _ _ e3⟩)
theorem LR.grow {x : D} {v : V} (g : Grow F F' H H') (h : LR K F H x v) : LR K F' H' x v := by
  cases x <;> first
    | exact Rp.mono g.f _ _ h
    | (obtain ⟨a, vs, e1, e2, e3⟩ := h
       exact ⟨a, vs, e1, g.h _ _ e2, RpL.mono g.f _ _ e3⟩)
theorem VR.look {val : Val} {v : V} (e : Same F' H') (h : VR K F' H H' val v) : LR K F' H' val.D v := by
  cases val with
  | d x => exact LR.of e h
  | fr xs =>
    obtain ⟨p, vs, e1, _, e2, _, e3⟩ := h
    exact ⟨p, vs, e1, e2, e3⟩
/-- the new list is kept from here on -/
theorem VR.keep {val : Val} {v : V} (g : Grow F F' H H') (h : VR K F' H H' val v) : ∃ F2, Grow F F2 H H' ∧ Same F' F2 ∧ Rp K F2 val.D v := by
  cases val with
  | d x => exact ⟨F', g, Same.refl _, h⟩
  | fr xs =>
    obtain ⟨p, vs, e1, n, e2, n2, e3⟩ := h
    have s1 : Same F' (upd F' p (.lst vs)) := same_upd n2
    refine ⟨upd F' p (.lst vs), ⟨g.f.trans s1, fun b o q => ?_, g.h, fun a ha => ?_⟩, s1, ?_⟩
    · by_cases hb : b = p
      · subst hb
        rw [upd_same] at q
        rw [e2]; exact q
      · rw [upd_ne hb] at q
        exact g.fh b o q
    · by_cases hb : a = p
      · subst hb; exact .inr n
      · rw [upd_ne hb] at ha
        exact g.new a ha
    · show Rp K _ (.lst xs) v
      rw [Rp]
      exact ⟨p, vs, e1, upd_same, RpL.mono s1 _ _ e3⟩
/-- behind more growth ahead: the list is still new -/
theorem VR.back {val : Val} {v : V} {H1 : Hp} (e : Same H1 H) (h : VR K F' H H' val v) : VR K F' H1 H' val v := by
  cases val with
  | d x => exact h
  | fr xs =>
    obtain ⟨p, vs, e1, n, e2⟩ := h
    exact ⟨p, vs, e1, e.free n, e2⟩
end

structure StOk (K : PySem.W.Frag) (B F H : Hp) (σ : St) (S : Sg) : Prop where
  bh : Same B H
  fh : Same F H
  len : S.length = σ.length
  fz : ∀ (i : Nat) (x : D), S[i]? = some (.fz x) → ∃ v, σ[i]? = some (some v) ∧ Rp K F x v
  own : ∀ (i : Nat) (xs : List D), S[i]? = some (.own xs) → ∃ p vs, σ[i]? = some (some (.ref p)) ∧ H p = some (.lst vs) ∧ F p = none ∧ B p = none ∧ RpL K F xs vs
  ap : ∀ (i j : Nat) (xs ys : List D) (p : Addr), i ≠ j → S[i]? = some (.own xs) → S[j]? = some (.own ys) → σ[i]? = some (some (.ref p)) → σ[j]? = some (some (.ref p)) → False
section
variable {K : PySem.W.Frag} {B F F' H H' : Hp} {σ : St} {S : Sg}
theorem StOk.grow (s : StOk K B F H σ S) (g : Grow F F' H H') : StOk K B F' H' σ S where
  bh := s.bh.trans g.h
  fh := g.fh
  len := s.len
  fz := fun i x h => by
    obtain ⟨v, e, r⟩ := s.fz i x h
    exact ⟨v, e, Rp.mono g.f _ _ r⟩
  own := fun i xs h => by
    obtain ⟨p, vs, e, hp, fp, bp, r⟩ := s.own i xs h
    exact ⟨p, vs, e, g.h _ _ hp, g.non fp (by rw [hp]; exact fun z => nomatch z), bp, RpL.mono g.f _ _ r⟩
  ap := s.ap
theorem StOk.lt (s : StOk K B F H σ S) {i : Nat} {x : Sl} (h : S[i]? = some x) : i < σ.length := by
  rw [← s.len]
  exact (List.getElem?_eq_some_iff.mp h).1
/-- a list of one's own goes to another slot -/
theorem StOk.mov {i j : Nat} {xs : List D} {p : Addr} (s : StOk K B F H σ S) (hij : i ≠ j) (h : S[j]? = some (.own xs)) (e : σ[j]? = some (some (.ref p))) : StOk K B F H (σ.set i (some (.ref p))) ((S.set j .no).set i (.own xs)) := by
  have at_ : ∀ (l : Nat) (x : Sl), ((S.set j .no).set i (.own xs))[l]? = some x → (l = i ∧ x = .own xs) ∨ (l ≠ i ∧ l = j ∧ x = .no) ∨ (l ≠ i ∧ l ≠ j ∧ S[l]? = some x) := fun l x hl => by
    by_cases h1 : i = l
    · subst h1
      have hl2 : i < (S.set j .no).length := by
        have := (List.getElem?_eq_some_iff.mp hl).1
        rwa [List.length_set] at this
      rw [List.getElem?_set_self hl2] at hl
      exact .inl ⟨rfl, (Option.some.inj hl).symm⟩
    · rw [List.getElem?_set_ne h1] at hl
      by_cases h2 : j = l
      · subst h2
        have hl2 : j < S.length := (List.getElem?_eq_some_iff.mp h).1
        rw [List.getElem?_set_self hl2] at hl
        exact .inr (.inl ⟨fun z => h1 z.symm, rfl, (Option.some.inj hl).symm⟩)
      · rw [List.getElem?_set_ne h2] at hl
        exact .inr (.inr ⟨fun z => h1 z.symm, fun z => h2 z.symm, hl⟩)
  have sg : ∀ (l : Nat), l ≠ i → (σ.set i (some (.ref p)))[l]? = σ[l]? := fun l hl => List.getElem?_set_ne fun z => hl z.symm
  obtain ⟨p', vs, e1, hp, fp, bp, r⟩ := s.own j xs h
  have ep : p' = p := by rw [e] at e1; cases e1; rfl
  subst ep
  refine ⟨s.bh, s.fh, by rw [List.length_set, List.length_set, List.length_set]; exact s.len, fun l x hl => ?_, fun l ys hl => ?_, fun l m ys zs q hlm h1 h2 q1 q2 => ?_⟩
  · rcases at_ l _ hl with ⟨_, z⟩ | ⟨_, _, z⟩ | ⟨n1, _, z⟩
    · cases z
    · cases z
    · rw [sg l n1]; exact s.fz l x z
  · rcases at_ l _ hl with ⟨rfl, z⟩ | ⟨_, _, z⟩ | ⟨n1, _, z⟩
    · cases z
      have hl2 : l < S.length := by
        have := (List.getElem?_eq_some_iff.mp hl).1
        rwa [List.length_set, List.length_set] at this
      exact ⟨p', vs, List.getElem?_set_self (by rw [← s.len]; exact hl2), hp, fp, bp, r⟩
    · cases z
    · rw [sg l n1]; exact s.own l ys z
  · rcases at_ l _ h1 with ⟨rfl, z⟩ | ⟨_, _, z⟩ | ⟨n1, n2, z⟩
    · rcases at_ m _ h2 with ⟨rfl, _⟩ | ⟨_, _, w⟩ | ⟨m1, m2, w⟩
      · exact hlm rfl
      · cases w
      · have hl2 : l < σ.length := by
          have := (List.getElem?_eq_some_iff.mp q1).1
          rwa [List.length_set] at this
        rw [List.getElem?_set_self hl2] at q1
        rw [sg m m1] at q2
        cases q1
        exact s.ap j m xs zs p' (fun z => m2 z.symm) h w e q2
    · cases z
    · rcases at_ m _ h2 with ⟨rfl, _⟩ | ⟨_, _, w⟩ | ⟨m1, m2, w⟩
      · have hl2 : m < σ.length := by
          have := (List.getElem?_eq_some_iff.mp q2).1
          rwa [List.length_set] at this
        rw [List.getElem?_set_self hl2] at q2
        rw [sg l n1] at q1
        cases q2
        exact s.ap l j ys xs p' n2 z h q1 e
      · cases w
      · rw [sg l n1] at q1
        rw [sg m m1] at q2
        exact s.ap l m ys zs q hlm z w q1 q2
/-- a slot gets a value -/
theorem StOk.set {i : Nat} {val : Val} {v : V} {H1 : Hp} (s : StOk K B F H σ S) (g : Grow F F' H H') (r : VR K F' H H' val v) : StOk K B F' H' (σ.set i (some v)) (S.set i val.sl) where
  bh := s.bh.trans g.h
  fh := g.fh
  len := by rw [List.length_set, List.length_set]; exact s.len
  fz := fun j x h => by
    by_cases hj : i = j
    · subst hj
      have hl : i < S.length := by
        have := (List.getElem?_eq_some_iff.mp h).1
        rwa [List.length_set] at this
      rw [List.getElem?_set_self hl] at h
      cases val with
      | d y =>
        have e : y = x := by
          have := Option.some.inj h
          injection this
        subst e
        exact ⟨v, List.getElem?_set_self (by rw [← s.len]; exact hl), r⟩
      | fr xs => cases h
    · rw [List.getElem?_set_ne hj] at h
      obtain ⟨w, e, q⟩ := s.fz j x h
      exact ⟨w, by rw [List.getElem?_set_ne hj]; exact e, Rp.mono g.f _ _ q⟩
  own := fun j xs h => by
    by_cases hj : i = j
    · subst hj
      have hl : i < S.length := by
        have := (List.getElem?_eq_some_iff.mp h).1
        rwa [List.length_set] at this
      rw [List.getElem?_set_self hl] at h
      cases val with
      | d y => cases h
      | fr ys =>
        have e : ys = xs := by
          have := Option.some.inj h
          injection this
        subst e
        obtain ⟨p, vs, rfl, n, e2, n2, e3⟩ := r
        exact ⟨p, vs, List.getElem?_set_self (by rw [← s.len]; exact hl), e2, n2, s.bh.free n, e3⟩
    · rw [List.getElem?_set_ne hj] at h
      obtain ⟨p, vs, e, hp, fp, bp, q⟩ := s.own j xs h
      exact ⟨p, vs, by rw [List.getElem?_set_ne hj]; exact e, g.h _ _ hp, g.non fp (by rw [hp]; exact fun z => nomatch z), bp, RpL.mono g.f _ _ q⟩
  ap := fun j k xs ys p hjk h1 h2 e1 e2 => by
    have key : ∀ (k' : Nat) (xs' ys' : List D), i ≠ k' → (S.set i val.sl)[i]? = some (.own xs') → (S.set i val.sl)[k']? = some (.own ys') → (σ.set i (some v))[i]? = some (some (.ref p)) → (σ.set i (some v))[k']? = some (some (.ref p)) → False := by
      intro k' xs' ys' hik q1 q2 q3 q4
      have hl : i < S.length := by
        have := (List.getElem?_eq_some_iff.mp q1).1
        rwa [List.length_set] at this
      rw [List.getElem?_set_self hl] at q1
      rw [List.getElem?_set_ne hik] at q2 q4
      rw [List.getElem?_set_self (by rw [← s.len]; exact hl)] at q3
      cases val with
      | d y => cases q1
      | fr zs =>
        obtain ⟨p', vs, rfl, n, _⟩ := r
        obtain ⟨p2, vs2, e3, hp2, _⟩ := s.own k' ys' q2
        rw [q4] at e3
        cases q3
        cases e3
        rw [n] at hp2
        cases hp2
    by_cases hj : i = j
    · subst hj
      exact key k xs ys hjk h1 h2 e1 e2
    · by_cases hk : i = k
      · subst hk
        exact key j ys xs (Ne.symm hjk) h2 h1 e2 e1
      · rw [List.getElem?_set_ne hj] at h1 e1
        rw [List.getElem?_set_ne hk] at h2 e2
        exact s.ap j k xs ys p hjk h1 h2 e1 e2
/-- one's own list is changed -/
theorem StOk.wr {i : Nat} {xs ys : List D} {p : Addr} {vs ws : List V} (s : StOk K B F H σ S) (h : S[i]? = some (.own xs)) (e : σ[i]? = some (some (.ref p))) (hp : H p = some (.lst vs)) (r : RpL K F ys ws) :
    StOk K B F (upd H p (.lst ws)) σ (S.set i (.own ys)) := by
  obtain ⟨p', vs', e', hp', fp, bp, _⟩ := s.own i xs h
  rw [e] at e'
  cases e'
  refine ⟨same_upd2 s.bh bp, same_upd2 s.fh fp, by rw [List.length_set]; exact s.len, fun j x hj => ?_, fun j zs hj => ?_, fun j k zs us q hjk h1 h2 e1 e2 => ?_⟩
  · by_cases hij : i = j
    · subst hij
      have hl : i < S.length := (List.getElem?_eq_some_iff.mp h).1
      rw [List.getElem?_set_self hl] at hj
      cases hj
    · rw [List.getElem?_set_ne hij] at hj
      exact s.fz j x hj
  · by_cases hij : i = j
    · subst hij
      have hl : i < S.length := (List.getElem?_eq_some_iff.mp h).1
      rw [List.getElem?_set_self hl] at hj
      cases hj
      exact ⟨p, ws, e, upd_same, fp, bp, r⟩
    · rw [List.getElem?_set_ne hij] at hj
      obtain ⟨q, us, e1, hq, fq, bq, rq⟩ := s.own j zs hj
      have ne : q ≠ p := fun z => by
        subst z
        exact s.ap i j xs zs q hij h hj e e1
      exact ⟨q, us, e1, by rw [upd_ne ne]; exact hq, fq, bq, rq⟩
  · have own' : ∀ (j : Nat) (zs : List D), (S.set i (.own ys))[j]? = some (.own zs) → ∃ us, S[j]? = some (.own us) := fun j zs hj => by
      by_cases hij : i = j
      · subst hij; exact ⟨xs, h⟩
      · rw [List.getElem?_set_ne hij] at hj; exact ⟨zs, hj⟩
    obtain ⟨a, ha⟩ := own' j zs h1
    obtain ⟨b, hb⟩ := own' k us h2
    exact s.ap j k a b q hjk ha hb e1 e2
/-- the list in slot i is kept from here on -/
theorem StOk.frz (s : StOk K B F H σ S) (i : Nat) : ∃ F', Same F F' ∧ (∀ a, F' a ≠ none → F a ≠ none ∨ B a = none) ∧ StOk K B F' H σ (frzS S i) := by
  unfold frzS
  cases q : S[i]? with
  | none => exact ⟨F, Same.refl F, fun _ h => .inl h, s⟩
  | some sl =>
    cases sl with
    | no => exact ⟨F, Same.refl F, fun _ h => .inl h, s⟩
    | fz x => exact ⟨F, Same.refl F, fun _ h => .inl h, s⟩
    | own xs =>
      obtain ⟨p, vs, e, hp, fp, bp, r⟩ := s.own i xs q
      have s1 : Same F (upd F p (.lst vs)) := same_upd fp
      have hl : i < S.length := (List.getElem?_eq_some_iff.mp q).1
      refine ⟨upd F p (.lst vs), s1, fun a ha => ?_, ⟨s.bh, fun b o z => ?_, by rw [List.length_set]; exact s.len, fun j x hj => ?_, fun j zs hj => ?_, fun j k zs us w hjk h1 h2 e1 e2 => ?_⟩⟩
      · by_cases h : a = p
        · subst h; exact .inr bp
        · rw [upd_ne h] at ha; exact .inl ha
      · by_cases h : b = p
        · subst h
          rw [upd_same] at z
          rw [hp]; exact z
        · rw [upd_ne h] at z
          exact s.fh b o z
      · by_cases hij : i = j
        · subst hij
          have hj : (S.set i (.fz (.lst xs)))[i]? = some (.fz x) := hj
          rw [List.getElem?_set_self hl] at hj
          have e2 : D.lst xs = x := by
            have := Option.some.inj hj
            injection this
          subst e2
          refine ⟨.ref p, e, ?_⟩
          rw [Rp]
          exact ⟨p, vs, rfl, upd_same, RpL.mono s1 _ _ r⟩
        · have hj : (S.set i (.fz (.lst xs)))[j]? = some (.fz x) := hj
          rw [List.getElem?_set_ne hij] at hj
          obtain ⟨v, e1, r1⟩ := s.fz j x hj
          exact ⟨v, e1, Rp.mono s1 _ _ r1⟩
      · have hj : (S.set i (.fz (.lst xs)))[j]? = some (.own zs) := hj
        by_cases hij : i = j
        · subst hij
          rw [List.getElem?_set_self hl] at hj
          cases hj
        · rw [List.getElem?_set_ne hij] at hj
          obtain ⟨w, us, e1, hw, fw, bw, rw'⟩ := s.own j zs hj
          have ne : w ≠ p := fun z => by
            subst z
            exact s.ap i j xs zs w hij q hj e e1
          exact ⟨w, us, e1, hw, by rw [upd_ne ne]; exact fw, bw, RpL.mono s1 _ _ rw'⟩
      · have own' : ∀ (j : Nat) (zs : List D), (S.set i (.fz (.lst xs)))[j]? = some (.own zs) → S[j]? = some (.own zs) := fun j zs hj => by
          by_cases hij : i = j
          · subst hij
            rw [List.getElem?_set_self hl] at hj
            cases hj
          · rw [List.getElem?_set_ne hij] at hj; exact hj
        exact s.ap j k _ _ w hjk (own' j zs h1) (own' k us h2) e1 e2
end
end Fv
end
section
set_option maxHeartbeats 1000000
namespace Fv
open PySem PySem.Spec PyProof.Rows L2
abbrev Sx := L2.St
theorem sx_len (s : Tx) : (⟨s.toArray⟩ : Str).length = s.length := by simp [Str.length]
theorem sx_app (a b : Tx) : (⟨a.toArray⟩ : Str) ++ ⟨b.toArray⟩ = ⟨(a ++ b).toArray⟩ := TL.ext_tl (by rw [TL.tl_append])
theorem line_eq : LINE = sizeLine := by rw [sizeLine_eq]
def BOp.op : BOp → Operator
  | .add => .Add | .sub => .Sub | .mul => .Mult | .fdiv => .FloorDiv | .mod => .Mod | .pow => .Pow
def COp.op : COp → CmpOp
  | .eq => .Eq | .ne => .NotEq | .lt => .Lt | .le => .LtE | .gt => .Gt | .ge => .GtE | .inn => .In | .nin => .NotIn | .is => .Is | .isn => .IsNot
def rB (K : PySem.W.Frag) (o : BOp) : R2 := fun x y H Q => ∃ F d1 d2 val, Same F H ∧ LR K F H d1 x ∧ LR K F H d2 y ∧ binD o d1 d2 = .ok val ∧ ∀ F' H' v, Grow F F' H H' → VR K F' H H' val v → Q v H'
section
variable {X : Cx} {K : PySem.W.Frag} {F H : Hp} {Q : VK}
theorem lr_int {i : Int} {x : V} (h : LR K F H (.int i) x) : x = .int i := by
  have h1 : Rp K F (.int i) x := h
  rwa [Rp] at h1
theorem lr_str {i : Tx} {x : V} (h : LR K F H (.str i) x) : x = .str ⟨i.toArray⟩ := by
  have h1 : Rp K F (.str i) x := h
  rwa [Rp] at h1
theorem lr_bl {i : Bool} {x : V} (h : LR K F H (.bl i) x) : x = .bl i := by
  have h1 : Rp K F (.bl i) x := h
  rwa [Rp] at h1
theorem lr_non {x : V} (h : LR K F H .non x) : x = .non := by
  have h1 : Rp K F .non x := h
  rwa [Rp] at h1
theorem lr_tup {xs : List D} {x : V} (e : Same F H) (h : LR K F H (.tup xs) x) : ∃ a vs, x = .ref a ∧ F a = some (.tup vs) ∧ H a = some (.tup vs) ∧ RpL K F xs vs := by
  have h1 : Rp K F (.tup xs) x := h
  rw [Rp] at h1
  obtain ⟨a, vs, e1, e2, e3⟩ := h1
  exact ⟨a, vs, e1, e2, e _ _ e2, e3⟩
theorem rp_int {i : Int} : Rp K F (.int i) (.int i) := by rw [Rp]
theorem rp_str {i : Tx} : Rp K F (.str i) (.str ⟨i.toArray⟩) := by rw [Rp]
theorem rp_bl {i : Bool} : Rp K F (.bl i) (.bl i) := by rw [Rp]
theorem rp_non : Rp K F .non .non := by rw [Rp]
theorem rp_tup {xs : List D} {a : Addr} {vs : List V} (h : F a = some (.tup vs)) (r : RpL K F xs vs) : Rp K F (.tup xs) (.ref a) := by rw [Rp]; exact ⟨a, vs, rfl, h, r⟩
/-- a flat end -/
theorem endV {val : Val} {x : D} {v : V} (s : Same F H) (q : ∀ F' H' v, Grow F F' H H' → VR K F' H H' val v → Q v H') (e : val = .d x) (r : Rp K F x v) : Q v H := by
  subst e
  exact q F H v (Grow.refl s) r
/-- a new list's end -/
theorem endL {val : Val} {xs : List D} {vs : List V} (s : Same F H) (q : ∀ F' H' v, Grow F F' H H' → VR K F' H H' val v → Q v H') (e : val = .fr xs) (r : RpL K F xs vs) : ∀ p, H p = none → Q (.ref p) (upd H p (.lst vs)) := fun p hp => by
  subst e
  exact q F _ _ (Grow.newH s hp) ⟨p, vs, rfl, hp, upd_same, s.free hp, r⟩
/-- a new tuple's end -/
theorem endT {val : Val} {xs : List D} {vs : List V} (s : Same F H) (q : ∀ F' H' v, Grow F F' H H' → VR K F' H H' val v → Q v H') (e : val = .d (.tup xs)) (r : RpL K F xs vs) : ∀ p, H p = none → Q (.ref p) (upd H p (.tup vs)) := fun p hp => by
  subst e
  refine q _ _ _ (Grow.newF (o := .tup vs) s hp) ?_
  exact rp_tup upd_same (RpL.mono (same_upd (s.free hp)) _ _ r)

theorem mulOk_ok {i j : Int} (h : mulOk i j = true) : IntMulOk i j := by
  have h3 : i.natAbs.log2 + j.natAbs.log2 < 100000000 := of_decide_eq_true h
  have b : ∀ x : Int, Builtin.Int.intBits x ≤ x.natAbs.log2 + 1 := fun x => by
    unfold Builtin.Int.intBits
    split <;> omega
  have h1 := b i
  have h2 := b j
  have e : bitsLine = 134217728 := by decide
  unfold IntMulOk
  intro z
  rw [Bool.and_eq_true] at z
  have z2 := z.2
  unfold Builtin.Int.intTooBig at z2
  have z3 := of_decide_eq_true z2
  rw [e] at z3
  omega
theorem op_mulB : OpR X (binaryOp .Mult) (rI (fun i j => mulOk i j = true) fun i j => .int (i * j)) := opI fun _ _ _ _ _ _ _ hc q => mul_int q (mulOk_ok hc)
theorem op_divB : OpR X (binaryOp .FloorDiv) (rI (fun _ j => divOk j = true) fun i j => .int (i / j)) := opI fun i j _ _ _ _ _ hc q => by
  have h2 : 0 < j ∧ j.natAbs.log2 < 9000 := of_decide_eq_true hc
  have h1 := h2.1
  exact floordiv_int (by omega) (by rw [Int.fdiv_eq_ediv_of_nonneg i (by omega)]; exact q) (.inl (PyProof.noPylong_of_log2 h2.2))
theorem rep_flat1 {c : Nat} (n : Nat) : (List.replicate n #[c]).foldl (· ++ ·) #[] = (List.replicate n [c]).flatten.toArray := by
  have key : ∀ (m : Nat) (acc : List Nat), (List.replicate m #[c]).foldl (· ++ ·) acc.toArray = (acc ++ (List.replicate m [c]).flatten).toArray := by
    intro m
    induction m with
    | zero => intro acc; simp
    | succ m ih =>
      intro acc
      rw [List.replicate_succ, List.replicate_succ, List.foldl_cons, List.flatten_cons]
      have e : acc.toArray ++ #[c] = (acc ++ [c]).toArray := by simp
      rw [e, ih (acc ++ [c])]
      simp
  have := key n []
  rw [List.nil_append] at this
  exact this
theorem op_mulS : OpR X (binaryOp .Mult) (fun x y H Q => ∃ (c : Nat) (j : Int), x = .str ⟨#[c]⟩ ∧ y = .int j ∧ 0 ≤ j ∧ j ≤ 10000 ∧ Q (.str ⟨(List.replicate j.toNat [c]).flatten.toArray⟩) H) := by
  intro pins s σ H x y v u Q I rx ry h
  obtain ⟨c, j, rfl, rfl, h0, h1, q⟩ := h
  obtain ⟨t, rfl⟩ := rx
  obtain ⟨t', rfl⟩ := ry
  have hlen : (⟨#[c]⟩ : Str).length = 1 := rfl
  refine PySem.P.mul_str ?_ (fun hj _ => ?_) (fun hj _ => ?_) ?_
  · rw [decide_eq_false (by omega), decide_eq_false (by omega)]; rfl
  · rw [hlen]
    have h2 : (1 : Int) ≤ (2 ^ 63 - 1) / j := by
      rw [Int.le_ediv_iff_mul_le (by omega)]
      omega
    show ¬ ((1 : Nat) : Int) > _
    omega
  · rw [hlen, Nat.one_mul]
    have : j.toNat ≤ 10000 := by omega
    unfold Builtin.Str.tooLong
    rw [decide_eq_false]
    rw [sizeLine_eq]
    omega
  · by_cases hj : j < 1
    · have e : j = 0 := by omega
      subst e
      rw [if_pos (by decide)]
      exact ⟨by decide, ⟨.str _, H, I.tok _, ⟨_, rfl⟩, q⟩⟩
    · rw [if_neg hj]
      by_cases h1' : j = 1
      · subst h1'
        rw [if_pos (show ((1 : Int) == 1 || (⟨#[c]⟩ : Str).length == 0) = true from rfl)]
        exact ⟨.str _, H, I, ⟨_, rfl⟩, q⟩
      · have hf : (j == 1 || (⟨#[c]⟩ : Str).length == 0) = false := by
          have : (j == 1) = false := beq_eq_false_iff_ne.mpr h1'
          rw [this, hlen]; rfl
        rw [if_neg (by rw [hf]; exact Bool.false_ne_true), rep_flat1]
        refine ⟨?_, ⟨.str _, H, I.tok _, ⟨_, rfl⟩, q⟩⟩
        show (⟨(List.replicate j.toNat [c]).flatten.toArray⟩ : Str).length ≤ sizeLine
        rw [sx_len, sizeLine_eq]
        simp
        omega
theorem op_bin (o : BOp) : OpR X (binaryOp o.op) (rB X.K o) := by
  intro pins s σ H x y v u Q I rx ry h
  obtain ⟨F, d1, d2, val, sm, l1, l2, e, q⟩ := h
  cases o <;> cases d1 <;> cases d2 <;> try (exact nomatch (show (R.bad : R Val) = R.ok val from e))
  case add.int.int i j =>
    obtain rfl := lr_int l1; obtain rfl := lr_int l2
    rw [binD] at e; cases e
    exact op_add pins s σ H _ _ v u Q I rx ry ⟨i, j, rfl, rfl, endV sm q rfl rp_int⟩
  case add.str.str a b =>
    obtain rfl := lr_str l1; obtain rfl := lr_str l2
    rw [binD] at e
    split at e
    · rename_i hz
      cases e
      refine op_add_str pins s σ H _ _ v u Q I rx ry ⟨_, _, rfl, rfl, by rw [sx_len, sx_len, ← line_eq]; exact hz, ?_⟩
      rw [sx_app]
      exact endV sm q rfl rp_str
    · cases e
  case add.lst.lst a b =>
    obtain ⟨p, vs, rfl, hp, r1⟩ := l1
    obtain ⟨p2, ws, rfl, hp2, r2⟩ := l2
    rw [binD] at e
    split at e
    · rename_i hz
      cases e
      exact op_cat pins s σ H _ _ v u Q I rx ry ⟨p, p2, vs, ws, rfl, rfl, hp, hp2, by rw [← r1.len, ← r2.len, ← line_eq]; exact hz, endL sm q rfl (r1.app r2)⟩
    · cases e
  case add.tup.tup a b =>
    obtain ⟨p, vs, rfl, fp, hp, r1⟩ := lr_tup sm l1
    obtain ⟨p2, ws, rfl, fp2, hp2, r2⟩ := lr_tup sm l2
    rw [binD] at e
    split at e
    · rename_i hz
      cases e
      refine op_catA pins s σ H _ _ v u Q I rx ry ⟨p, p2, vs, ws, rfl, rfl, SqT.of hp, SqT.of hp2, by rw [← r1.len, ← r2.len, ← line_eq]; exact hz, fun e0 => ?_, fun _ e0 => ?_, fun _ _ => endT sm q rfl (r1.app r2)⟩
      · have ea : a = [] := List.eq_nil_of_length_eq_zero (by rw [r1.len, e0]; rfl)
        subst ea
        exact endV sm q rfl (rp_tup fp2 r2)
      · have ea : b = [] := List.eq_nil_of_length_eq_zero (by rw [r2.len, e0]; rfl)
        subst ea
        rw [List.append_nil] at q
        exact endV sm q rfl (rp_tup fp r1)
    · cases e
  case sub.int.int i j =>
    obtain rfl := lr_int l1; obtain rfl := lr_int l2
    rw [binD] at e; cases e
    exact op_sub pins s σ H _ _ v u Q I rx ry ⟨i, j, rfl, rfl, endV sm q rfl rp_int⟩
  case mul.int.int i j =>
    obtain rfl := lr_int l1; obtain rfl := lr_int l2
    rw [binD] at e
    split at e
    · rename_i hz
      cases e
      exact op_mulB pins s σ H _ _ v u Q I rx ry ⟨i, j, rfl, rfl, hz, endV sm q rfl rp_int⟩
    · cases e
  case mul.str.int a j =>
    obtain rfl := lr_str l1; obtain rfl := lr_int l2
    rw [binD] at e
    split at e
    · rename_i hz
      cases e
      obtain ⟨_, h1, h2, h3⟩ := hz
      obtain ⟨c, rfl⟩ : ∃ c, a = [c] := by
        cases a with
        | nil => cases h1
        | cons c r =>
          cases r with
          | nil => exact ⟨c, rfl⟩
          | cons _ _ => simp at h1
      exact op_mulS pins s σ H _ _ v u Q I rx ry ⟨c, j, rfl, rfl, h2, h3, endV sm q rfl rp_str⟩
    · cases e
  case mul.lst.int a j =>
    obtain ⟨p, vs, rfl, hp, r1⟩ := l1
    obtain rfl := lr_int l2
    rw [binD] at e
    split at e
    · rename_i hz
      cases e
      obtain ⟨h1, h2, h3⟩ := hz
      exact op_rep pins s σ H _ _ v u Q I rx ry ⟨p, j, vs, rfl, rfl, hp, h2, h3, by rw [← r1.len, ← line_eq]; exact h1, endL sm q rfl (r1.rep _)⟩
    · cases e
  case fdiv.int.int i j =>
    obtain rfl := lr_int l1; obtain rfl := lr_int l2
    rw [binD] at e
    split at e
    · rename_i hz
      cases e
      exact op_divB pins s σ H _ _ v u Q I rx ry ⟨i, j, rfl, rfl, hz, endV sm q rfl rp_int⟩
    · cases e
  case mod.int.int i j =>
    obtain rfl := lr_int l1; obtain rfl := lr_int l2
    rw [binD] at e
    split at e
    · rename_i hz
      cases e
      exact op_mod pins s σ H _ _ v u Q I rx ry ⟨i, j, rfl, rfl, hz, endV sm q rfl rp_int⟩
    · cases e
  case pow.int.int i j =>
    obtain rfl := lr_int l1; obtain rfl := lr_int l2
    rw [binD] at e
    split at e
    · rename_i hz
      cases e
      exact op_pow pins s σ H _ _ v u Q I rx ry ⟨i, j, rfl, rfl, (of_decide_eq_true (show decide (0 ≤ j ∧ j ≤ 1000000 ∧ i.natAbs < 2 ^ 64) = true from hz) : 0 ≤ j ∧ j ≤ 1000000 ∧ i.natAbs < 2 ^ 64), endV sm q rfl rp_int⟩
    · cases e
end
end Fv
end
section
set_option maxHeartbeats 1000000
namespace Fv
open PySem PySem.Spec PyProof.Rows L2
mutual
def D.py : D → PyData
  | .non => .none
  | .bl b => .bool b
  | .int i => .int i
  | .str s => .str ⟨s.toArray⟩
  | .lst xs => .list (D.pys xs)
  | .tup xs => .tuple (D.pys xs)
  | _ => .none
def D.pys : List D → List PyData
  | [] => []
  | x :: xs => x.py :: D.pys xs
end
section
variable {K : PySem.W.Frag} {F H : Hp}
theorem cl_lst {n : Nat} {xs : List D} (h : D.cl n (.lst xs) = true) : ∃ m, n = m + 1 ∧ xs.all (D.cl m) = true := by
  cases n with
  | zero => exact absurd (show false = true from h) Bool.false_ne_true
  | succ m => exact ⟨m, rfl, h⟩
theorem cl_tup {n : Nat} {xs : List D} (h : D.cl n (.tup xs) = true) : ∃ m, n = m + 1 ∧ xs.all (D.cl m) = true := by
  cases n with
  | zero => exact absurd (show false = true from h) Bool.false_ne_true
  | succ m => exact ⟨m, rfl, h⟩
theorem cl_bl {n : Nat} {b : Bool} (h : D.cl n (.bl b) = true) : False := by
  cases n <;> exact absurd (show false = true from h) Bool.false_ne_true
theorem cl_dic {n : Nat} {a b : List D} (h : D.cl n (.dic a b) = true) : False := by
  cases n <;> exact absurd (show false = true from h) Bool.false_ne_true
theorem cl_ins {n : Nat} {a : String} {b : List String} {d : List D} (h : D.cl n (.ins a b d) = true) : False := by
  cases n <;> exact absurd (show false = true from h) Bool.false_ne_true
theorem cl_scr {n : Nat} {b : List Int} (h : D.cl n (.scr b) = true) : False := by
  cases n <;> exact absurd (show false = true from h) Bool.false_ne_true
theorem cl_str {n : Nat} {s : Tx} (h : D.cl n (.str s) = true) : (∀ c ∈ s, c < 128) ∧ s.length ≤ LINE := by
  have h2 : (s.all (· < 128) && decide (s.length ≤ LINE)) = true := by cases n <;> exact h
  rw [Bool.and_eq_true] at h2
  refine ⟨fun c hc => ?_, of_decide_eq_true h2.2⟩
  have := List.all_eq_true.mp h2.1 c hc
  exact of_decide_eq_true this
mutual
theorem dp_of : ∀ (n : Nat) (x : D) (v : V), x.cl n = true → Rp K H x v → Dp K H v x.py
  | n, .non, v, _, h => by rw [Rp] at h; subst h; rw [D.py]; exact .non
  | n, .bl b, v, c, h => (cl_bl c).elim
  | n, .int i, v, _, h => by rw [Rp] at h; subst h; rw [D.py]; exact .int i
  | n, .str s, v, _, h => by rw [Rp] at h; subst h; rw [D.py]; exact .str _
  | n, .lst xs, v, c, h => by
    obtain ⟨m, rfl, c⟩ := cl_lst c
    rw [Rp] at h
    obtain ⟨a, vs, rfl, e2, e3⟩ := h
    rw [D.py]
    exact .lst (SqL.of e2) (dps_of m xs vs c e3)
  | n, .tup xs, v, c, h => by
    obtain ⟨m, rfl, c⟩ := cl_tup c
    rw [Rp] at h
    obtain ⟨a, vs, rfl, e2, e3⟩ := h
    rw [D.py]
    exact .tup (SqT.of e2) (dps_of m xs vs c e3)
  | n, .dic _ _, _, c, _ => (cl_dic c).elim
  | n, .ins _ _ _, _, c, _ => (cl_ins c).elim
  | n, .scr _, _, c, _ => (cl_scr c).elim
theorem dps_of : ∀ (n : Nat) (xs : List D) (vs : List V), xs.all (D.cl n) = true → RpL K H xs vs → DpAll K H vs (D.pys xs)
  | n, [], vs, _, h => by rw [RpL] at h; subst h; rw [D.pys]; exact .nil
  | n, x :: xs, vs, c, h => by
    rw [RpL] at h
    obtain ⟨v, r, rfl, h1, h2⟩ := h
    rw [List.all_cons, Bool.and_eq_true] at c
    rw [D.pys]
    exact .cons (dp_of n x v c.1 h1) (dps_of n xs r c.2 h2)
end
theorem strOk_of {s : Tx} (h : ∀ c ∈ s, c < 128) (hl : s.length ≤ LINE) : PyData.strOk ⟨s.toArray⟩ = true := by
  unfold PyData.strOk
  simp
  first
    | exact fun c hc => by have := h c hc; omega
    | (refine ⟨fun c hc => ?_, ?_⟩ <;> first | (have := h c hc; omega) | (rw [← line_eq]; exact hl))
mutual
theorem lay_of : ∀ (n : Nat) (x : D), x.cl n = true → x.py.canLay0 = true
  | n, .non, _ => by rw [D.py]; rfl
  | n, .bl b, c => (cl_bl c).elim
  | n, .int i, _ => by rw [D.py]; rfl
  | n, .str s, c => by
    rw [D.py, PyData.canLay0]
    exact strOk_of (cl_str c).1 (cl_str c).2
  | n, .lst xs, c => by
    obtain ⟨m, rfl, c⟩ := cl_lst c
    rw [D.py, PyData.canLay0]
    exact lays_of m xs c
  | n, .tup xs, c => by
    obtain ⟨m, rfl, c⟩ := cl_tup c
    rw [D.py, PyData.canLay0]
    exact lays_of m xs c
  | n, .dic _ _, c => (cl_dic c).elim
  | n, .ins _ _ _, c => (cl_ins c).elim
  | n, .scr _, c => (cl_scr c).elim
theorem lays_of : ∀ (n : Nat) (xs : List D), xs.all (D.cl n) = true → PyData.canLayAll0 (D.pys xs) = true
  | n, [], _ => by rw [D.pys, PyData.canLayAll0]
  | n, x :: xs, c => by
    rw [List.all_cons, Bool.and_eq_true] at c
    rw [D.pys, PyData.canLayAll0, lay_of n x c.1, lays_of n xs c.2]
    rfl
end
mutual
theorem dep_of : ∀ (n : Nat) (x : D), x.cl n = true → x.py.depth ≤ n
  | n, .non, _ => by rw [D.py, PyData.depth]; exact Nat.zero_le _
  | n, .bl b, c => (cl_bl c).elim
  | n, .int i, _ => by rw [D.py, PyData.depth]; exact Nat.zero_le _
  | n, .str s, c => by rw [D.py, PyData.depth]; exact Nat.zero_le _
  | n, .lst xs, c => by
    obtain ⟨m, rfl, c⟩ := cl_lst c
    rw [D.py, PyData.depth]
    exact Nat.succ_le_succ (deps_of m xs c)
  | n, .tup xs, c => by
    obtain ⟨m, rfl, c⟩ := cl_tup c
    rw [D.py, PyData.depth]
    exact Nat.succ_le_succ (deps_of m xs c)
  | n, .dic _ _, c => (cl_dic c).elim
  | n, .ins _ _ _, c => (cl_ins c).elim
  | n, .scr _, c => (cl_scr c).elim
theorem deps_of : ∀ (n : Nat) (xs : List D), xs.all (D.cl n) = true → PyData.depthAll (D.pys xs) ≤ n
  | n, [], _ => by rw [D.pys, PyData.depthAll]; exact Nat.zero_le _
  | n, x :: xs, c => by
    rw [List.all_cons, Bool.and_eq_true] at c
    rw [D.pys, PyData.depthAll]
    exact Nat.max_le.mpr ⟨dep_of n x c.1, deps_of n xs c.2⟩
end
theorem str_beq {s t : Tx} : ((⟨s.toArray⟩ : Str) == ⟨t.toArray⟩) = decide (s = t) := by
  rw [Bool.eq_iff_iff]
  simp
theorem dec_inj {p q : Prop} [Decidable p] [Decidable q] (h : p ↔ q) : decide p = decide q := by
  by_cases hp : p
  · rw [decide_eq_true hp, decide_eq_true (h.mp hp)]
  · rw [decide_eq_false hp, decide_eq_false (fun z => hp (h.mpr z))]
mutual
theorem eqv_of : ∀ (n m : Nat) (x y : D), x.cl n = true → y.cl m = true → PyData.eqv x.py y.py = decide (x = y)
  | n, m, x, .bl _, _, c => (cl_bl c).elim
  | n, m, x, .dic _ _, _, c => (cl_dic c).elim
  | n, m, x, .ins _ _ _, _, c => (cl_ins c).elim
  | n, m, x, .scr _, _, c => (cl_scr c).elim
  | n, m, .bl _, y, c, _ => (cl_bl c).elim
  | n, m, .dic _ _, _, c, _ => (cl_dic c).elim
  | n, m, .ins _ _ _, _, c, _ => (cl_ins c).elim
  | n, m, .scr _, _, c, _ => (cl_scr c).elim
  | n, m, .non, .non, _, _ => by rw [D.py, PyData.eqv, decide_eq_true rfl]
  | n, m, .non, .int _, _, _ => by rw [D.py, D.py, PyData.eqv, decide_eq_false (fun z => nomatch z)]
  | n, m, .non, .str _, _, _ => by rw [D.py, D.py, PyData.eqv, decide_eq_false (fun z => nomatch z)]
  | n, m, .non, .lst _, _, _ => by rw [D.py, D.py, PyData.eqv, decide_eq_false (fun z => nomatch z)]
  | n, m, .non, .tup _, _, _ => by rw [D.py, D.py, PyData.eqv, decide_eq_false (fun z => nomatch z)]
  | n, m, .int _, .non, _, _ => by rw [D.py, D.py, PyData.eqv, decide_eq_false (fun z => nomatch z)]
  | n, m, .int i, .int j, _, _ => by
    rw [D.py, D.py, PyData.eqv, Bool.beq_eq_decide_eq]
    exact dec_inj ⟨fun e => by rw [e], fun e => by injection e⟩
  | n, m, .int _, .str _, _, _ => by rw [D.py, D.py, PyData.eqv, decide_eq_false (fun z => nomatch z)]
  | n, m, .int _, .lst _, _, _ => by rw [D.py, D.py, PyData.eqv, decide_eq_false (fun z => nomatch z)]
  | n, m, .int _, .tup _, _, _ => by rw [D.py, D.py, PyData.eqv, decide_eq_false (fun z => nomatch z)]
  | n, m, .str _, .non, _, _ => by rw [D.py, D.py, PyData.eqv, decide_eq_false (fun z => nomatch z)]
  | n, m, .str _, .int _, _, _ => by rw [D.py, D.py, PyData.eqv, decide_eq_false (fun z => nomatch z)]
  | n, m, .str s, .str t, _, _ => by
    rw [D.py, D.py, PyData.eqv, str_beq]
    exact dec_inj ⟨fun e => by rw [e], fun e => by injection e⟩
  | n, m, .str _, .lst _, _, _ => by rw [D.py, D.py, PyData.eqv, decide_eq_false (fun z => nomatch z)]
  | n, m, .str _, .tup _, _, _ => by rw [D.py, D.py, PyData.eqv, decide_eq_false (fun z => nomatch z)]
  | n, m, .lst _, .non, _, _ => by rw [D.py, D.py, PyData.eqv, decide_eq_false (fun z => nomatch z)]
  | n, m, .lst _, .int _, _, _ => by rw [D.py, D.py, PyData.eqv, decide_eq_false (fun z => nomatch z)]
  | n, m, .lst _, .str _, _, _ => by rw [D.py, D.py, PyData.eqv, decide_eq_false (fun z => nomatch z)]
  | n, m, .lst xs, .lst ys, c, d => by
    obtain ⟨n, rfl, c⟩ := cl_lst c
    obtain ⟨m, rfl, d⟩ := cl_lst d
    rw [D.py, D.py, PyData.eqv, eqvs_of n m xs ys c d]
    exact dec_inj ⟨fun e => by rw [e], fun e => by injection e⟩
  | n, m, .lst _, .tup _, _, _ => by rw [D.py, D.py, PyData.eqv, decide_eq_false (fun z => nomatch z)]
  | n, m, .tup _, .non, _, _ => by rw [D.py, D.py, PyData.eqv, decide_eq_false (fun z => nomatch z)]
  | n, m, .tup _, .int _, _, _ => by rw [D.py, D.py, PyData.eqv, decide_eq_false (fun z => nomatch z)]
  | n, m, .tup _, .str _, _, _ => by rw [D.py, D.py, PyData.eqv, decide_eq_false (fun z => nomatch z)]
  | n, m, .tup _, .lst _, _, _ => by rw [D.py, D.py, PyData.eqv, decide_eq_false (fun z => nomatch z)]
  | n, m, .tup xs, .tup ys, c, d => by
    obtain ⟨n, rfl, c⟩ := cl_tup c
    obtain ⟨m, rfl, d⟩ := cl_tup d
    rw [D.py, D.py, PyData.eqv, eqvs_of n m xs ys c d]
    exact dec_inj ⟨fun e => by rw [e], fun e => by injection e⟩
theorem eqvs_of : ∀ (n m : Nat) (xs ys : List D), xs.all (D.cl n) = true → ys.all (D.cl m) = true → PyData.eqvAll (D.pys xs) (D.pys ys) = decide (xs = ys)
  | n, m, [], [], _, _ => by rw [D.pys, PyData.eqvAll, decide_eq_true rfl]
  | n, m, [], y :: ys, _, _ => by rw [D.pys, D.pys, PyData.eqvAll, decide_eq_false (fun z => nomatch z)]
  | n, m, x :: xs, [], _, _ => by rw [D.pys, D.pys, PyData.eqvAll, decide_eq_false (fun z => nomatch z)]
  | n, m, x :: xs, y :: ys, c, d => by
    rw [List.all_cons, Bool.and_eq_true] at c d
    rw [D.pys, D.pys, PyData.eqvAll, eqv_of n m x y c.1 d.1, eqvs_of n m xs ys c.2 d.2, ← Bool.decide_and]
    exact dec_inj ⟨fun e => by rw [e.1, e.2], fun e => by injection e with e1 e2; exact ⟨e1, e2⟩⟩
end
theorem shaped_of {n : Nat} {x : D} (h : x.cl n = true) (hn : n ≤ 64) : SeqAt.shaped x.py = true := by
  unfold SeqAt.shaped
  rw [lay_of n x h, decide_eq_true (Nat.le_trans (dep_of n x h) hn)]
  rfl

def rC (K : PySem.W.Frag) (o : COp) : R2 := fun x y H Q => ∃ F d1 d2 b, Same F H ∧ LR K F H d1 x ∧ LR K F H d2 y ∧ cmpD o d1 d2 = .ok b ∧ Q (.bl b) H
theorem eqD_ok {a b : D} {c : Bool} (h : eqD a b = .ok c) : clb a = true ∧ clb b = true ∧ c = PyData.eqv a.py b.py := by
  have gen : ∀ {a b : D} {c : Bool}, (if clb a && clb b then R.ok (decide (a = b)) else R.bad) = R.ok c →
      (∀ i j, ¬ (a = .bl i ∧ b = .int j)) → (∀ i j, ¬ (a = .int i ∧ b = .bl j)) → (∀ i j, ¬ (a = .bl i ∧ b = .bl j)) → clb a = true ∧ clb b = true ∧ c = PyData.eqv a.py b.py := fun {a b c} h n1 n2 n3 => by
    by_cases hc : (clb a && clb b) = true
    · rw [if_pos hc] at h
      rw [Bool.and_eq_true] at hc
      have ka := hc.1
      have kb := hc.2
      refine ⟨ka, kb, ?_⟩
      cases h
      cases a with
      | bl i =>
        cases b with
        | bl j => exact absurd ⟨rfl, rfl⟩ (n3 i j)
        | int j => exact absurd ⟨rfl, rfl⟩ (n1 i j)
        | dic _ _ => exact (cl_dic kb).elim
        | ins _ _ => exact (cl_ins kb).elim
        | scr _ => exact (cl_scr kb).elim
        | _ => rw [D.py, D.py, PyData.eqv, decide_eq_false (fun z => nomatch z)]
      | int i =>
        cases b with
        | bl j => exact absurd ⟨rfl, rfl⟩ (n2 i j)
        | _ => exact (eqv_of 5 5 _ _ ka kb).symm
      | dic _ _ => exact (cl_dic ka).elim
      | ins _ _ => exact (cl_ins ka).elim
      | scr _ => exact (cl_scr ka).elim
      | _ =>
        cases b with
        | bl j => rw [D.py, D.py, PyData.eqv, decide_eq_false (fun z => nomatch z)]
        | _ => exact (eqv_of 5 5 _ _ ka kb).symm
    · rw [if_neg hc] at h
      cases h
  cases a with
  | bl i =>
    cases b with
    | bl j =>
      rw [eqD] at h
      cases h
      exact ⟨rfl, rfl, by rw [D.py, D.py, PyData.eqv]⟩
    | int j => rw [eqD] at h; cases h
    | _ => exact gen (by simpa [eqD] using h) (fun i j z => by cases z.2) (fun i j z => by cases z.1) (fun i j z => by cases z.2)
  | int i =>
    cases b with
    | bl j => rw [eqD] at h; cases h
    | _ => exact gen (by simpa [eqD] using h) (fun i j z => by cases z.1) (fun i j z => by cases z.2) (fun i j z => by cases z.1)
  | _ => exact gen (by cases b <;> simpa [eqD] using h) (fun i j z => by cases z.1) (fun i j z => by cases z.1) (fun i j z => by cases z.1)
theorem clb_dp {x : D} {v : V} (c : clb x = true) (h : Rp K H x v) : Dp K H v x.py ∧ SeqAt.shaped x.py = true := by
  cases x with
  | bl b => rw [Rp] at h; subst h; rw [D.py]; exact ⟨.bl b, rfl⟩
  | _ => exact ⟨dp_of 5 _ _ c h, shaped_of c (by decide)⟩
theorem flat0 {x : D} {v : V} (c : x.cl 0 = true) (h : Rp K H x v) : flatV v = true := by
  cases x with
  | non => rw [Rp] at h; subst h; rfl
  | int i => rw [Rp] at h; subst h; rfl
  | str s => rw [Rp] at h; subst h; rfl
  | bl b => exact (cl_bl c).elim
  | _ => exact absurd (show false = true from c) Bool.false_ne_true
theorem flats0 : ∀ {xs : List D} {vs : List V}, xs.all (D.cl 0) = true → RpL K H xs vs → vs.all flatV = true
  | [], vs, _, h => by rw [RpL] at h; subst h; rfl
  | x :: xs, vs, c, h => by
    rw [RpL] at h
    obtain ⟨v, r, rfl, h1, h2⟩ := h
    rw [List.all_cons, Bool.and_eq_true] at c
    rw [List.all_cons, flat0 c.1 h1, flats0 c.2 h2]
    rfl
theorem eqV0 {x y : D} {v w : V} (c : x.cl 0 = true) (d : y.cl 0 = true) (h : Rp K H x v) (g : Rp K H y w) : eqV w v = decide (x = y) := by
  cases x with
  | bl b => exact (cl_bl c).elim
  | lst _ => exact absurd (show false = true from c) Bool.false_ne_true
  | tup _ => exact absurd (show false = true from c) Bool.false_ne_true
  | dic _ _ => exact (cl_dic c).elim
  | ins _ _ => exact (cl_ins c).elim
  | scr _ => exact (cl_scr c).elim
  | non =>
    cases y with
    | bl b => exact (cl_bl d).elim
    | lst _ => exact absurd (show false = true from d) Bool.false_ne_true
    | tup _ => exact absurd (show false = true from d) Bool.false_ne_true
    | dic _ _ => exact (cl_dic d).elim
    | ins _ _ => exact (cl_ins d).elim
    | scr _ => exact (cl_scr d).elim
    | non => rw [Rp] at h; rw [Rp] at g; subst h; subst g; rw [decide_eq_true rfl]; rfl
    | int j => rw [Rp] at h; rw [Rp] at g; subst h; subst g; rw [decide_eq_false (fun z => nomatch z)]; rfl
    | str t => rw [Rp] at h; rw [Rp] at g; subst h; subst g; rw [decide_eq_false (fun z => nomatch z)]; rfl
  | int i =>
    cases y with
    | bl b => exact (cl_bl d).elim
    | lst _ => exact absurd (show false = true from d) Bool.false_ne_true
    | tup _ => exact absurd (show false = true from d) Bool.false_ne_true
    | dic _ _ => exact (cl_dic d).elim
    | ins _ _ => exact (cl_ins d).elim
    | scr _ => exact (cl_scr d).elim
    | non => rw [Rp] at h; rw [Rp] at g; subst h; subst g; rw [decide_eq_false (fun z => nomatch z)]; rfl
    | int j =>
      rw [Rp] at h; rw [Rp] at g; subst h; subst g
      show (j == i) = _
      rw [Bool.beq_eq_decide_eq]
      exact dec_inj ⟨fun e => by rw [e], fun e => by injection e with e; exact e.symm⟩
    | str t => rw [Rp] at h; rw [Rp] at g; subst h; subst g; rw [decide_eq_false (fun z => nomatch z)]; rfl
  | str s =>
    cases y with
    | bl b => exact (cl_bl d).elim
    | lst _ => exact absurd (show false = true from d) Bool.false_ne_true
    | tup _ => exact absurd (show false = true from d) Bool.false_ne_true
    | dic _ _ => exact (cl_dic d).elim
    | ins _ _ => exact (cl_ins d).elim
    | scr _ => exact (cl_scr d).elim
    | non => rw [Rp] at h; rw [Rp] at g; subst h; subst g; rw [decide_eq_false (fun z => nomatch z)]; rfl
    | int j => rw [Rp] at h; rw [Rp] at g; subst h; subst g; rw [decide_eq_false (fun z => nomatch z)]; rfl
    | str t =>
      rw [Rp] at h; rw [Rp] at g; subst h; subst g
      show ((⟨t.toArray⟩ : Str) == ⟨s.toArray⟩) = _
      rw [str_beq]
      exact dec_inj ⟨fun e => by rw [e], fun e => by injection e with e; exact e.symm⟩
theorem inV0 {x : D} {v : V} (c : x.cl 0 = true) (h : Rp K H x v) : ∀ {xs : List D} {vs : List V}, xs.all (D.cl 0) = true → RpL K H xs vs → inV v vs = decide (x ∈ xs)
  | [], vs, _, g => by
    rw [RpL] at g; subst g
    rw [decide_eq_false (fun z => nomatch z)]; rfl
  | y :: xs, vs, d, g => by
    rw [RpL] at g
    obtain ⟨w, r, rfl, h1, h2⟩ := g
    rw [List.all_cons, Bool.and_eq_true] at d
    have ih := inV0 c h d.2 h2
    unfold inV at ih ⊢
    rw [List.any_cons, ih, eqV0 c d.1 h h1, ← Bool.decide_or]
    exact dec_inj ⟨fun e => by rw [List.mem_cons]; exact e, fun e => by rw [List.mem_cons] at e; exact e⟩
theorem ints_rp : ∀ {xs : List D} {vs : List V} {ns : List Int}, RpL K H xs vs → intsOf xs = some ns → vs = ns.map V.int := RpL.ints
end
section
variable {X : Cx}
theorem op_cmp (o : COp) (hu : X.A.units + 64 < cLine) : OpR X (compareOp o.op) (rC X.K o) := by
  intro pins s σ H x y v u Q I rx ry h
  obtain ⟨F, d1, d2, b, sm, l1, l2, e, q⟩ := h
  have eqc : ∀ {c : Bool}, eqD d1 d2 = .ok c → Dp X.K H x d1.py ∧ Dp X.K H y d2.py ∧ SeqAt.shaped d1.py = true ∧ SeqAt.shaped d2.py = true ∧ c = PyData.eqv d1.py d2.py := fun {c} e => by
    obtain ⟨k1, k2, k3⟩ := eqD_ok e
    obtain ⟨a1, a2⟩ := clb_dp k1 (l1.full sm)
    obtain ⟨b1, b2⟩ := clb_dp k2 (l2.full sm)
    exact ⟨a1, b1, a2, b2, k3⟩
  cases o with
  | eq =>
    obtain ⟨p1, p2, p3, p4, p5⟩ := eqc e
    exact op_eqD hu pins s σ H x y v u Q I rx ry ⟨_, _, p1, p2, p3, p4, by rw [← p5]; exact q⟩
  | ne =>
    have e : (eqD d1 d2 >>= fun c => pure (!c)) = R.ok b := e
    cases ec : eqD d1 d2 with
    | ok c =>
      rw [ec] at e
      cases e
      obtain ⟨p1, p2, p3, p4, p5⟩ := eqc ec
      exact op_neD hu pins s σ H x y v u Q I rx ry ⟨_, _, p1, p2, p3, p4, by rw [← p5]; exact q⟩
    | er c fs => rw [ec] at e; cases e
    | bad => rw [ec] at e; cases e
  | lt =>
    cases d1 <;> cases d2 <;> try (exact nomatch (show (R.bad : R Bool) = R.ok b from e))
    case int.int i j =>
      obtain rfl := lr_int l1; obtain rfl := lr_int l2
      cases e
      exact op_lt pins s σ H _ _ v u Q I rx ry ⟨i, j, rfl, rfl, q⟩
    case tup.tup a c =>
      obtain ⟨p, vs, rfl, _, hp, r1⟩ := lr_tup sm l1
      obtain ⟨p2, ws, rfl, _, hp2, r2⟩ := lr_tup sm l2
      have e : ltTup a c = .ok b := e
      unfold ltTup at e
      cases e1 : intsOf a with
      | none => rw [e1] at e; cases e
      | some ns =>
        cases e2 : intsOf c with
        | none => rw [e1, e2] at e; cases e
        | some ms =>
          rw [e1, e2] at e
          cases e
          have v1 := RpL.ints r1 e1
          have v2 := RpL.ints r2 e2
          subst v1 v2
          exact op_ltT (by omega) pins s σ H _ _ v u Q I rx ry ⟨p, p2, ns, ms, rfl, rfl, SqT.of hp, SqT.of hp2, q⟩
  | le =>
    cases d1 <;> cases d2 <;> try (exact nomatch (show (R.bad : R Bool) = R.ok b from e))
    case int.int i j =>
      obtain rfl := lr_int l1; obtain rfl := lr_int l2
      cases e
      exact op_le pins s σ H _ _ v u Q I rx ry ⟨i, j, rfl, rfl, q⟩
  | gt =>
    cases d1 <;> cases d2 <;> try (exact nomatch (show (R.bad : R Bool) = R.ok b from e))
    case int.int i j =>
      obtain rfl := lr_int l1; obtain rfl := lr_int l2
      cases e
      exact op_gt pins s σ H _ _ v u Q I rx ry ⟨i, j, rfl, rfl, q⟩
  | ge =>
    cases d1 <;> cases d2 <;> try (exact nomatch (show (R.bad : R Bool) = R.ok b from e))
    case int.int i j =>
      obtain rfl := lr_int l1; obtain rfl := lr_int l2
      cases e
      exact op_ge pins s σ H _ _ v u Q I rx ry ⟨i, j, rfl, rfl, q⟩
  | inn =>
    have lst : ∀ {xs : List D}, (if d1.cl 0 && xs.all (D.cl 0) then R.ok (decide (d1 ∈ xs)) else R.bad) = R.ok b → (∃ p vs, y = .ref p ∧ (H p = some (.lst vs) ∨ H p = some (.tup vs)) ∧ RpL X.K H xs vs) →
        wpAny (model X.prog X.w) X.A (compareOp .In v u) (EP X pins σ Q) X.xe s := fun {xs} e hy => by
      obtain ⟨p, vs, rfl, hp, r⟩ := hy
      split at e
      · rename_i hc
        rw [Bool.and_eq_true] at hc
        cases e
        have r1 := l1.full sm
        refine op_in_seq pins s σ H _ _ v u Q I rx ry ⟨p, vs, rfl, ?_, flat0 hc.1 r1, flats0 hc.2 r, ?_⟩
        · rcases hp with hp | hp
          · exact .inl (SqL.of hp)
          · exact .inr (SqT.of hp)
        · rw [if_neg Bool.false_ne_true, inV0 hc.1 r1 hc.2 r]
          exact q
      · cases e
    cases d2 with
    | lst xs =>
      obtain ⟨p, vs, e1, hp, r⟩ := l2
      exact lst (by cases d1 <;> exact e) ⟨p, vs, e1, .inl hp, RpL.mono sm _ _ r⟩
    | tup xs =>
      obtain ⟨p, vs, e1, _, hp, r⟩ := lr_tup sm l2
      exact lst (by cases d1 <;> exact e) ⟨p, vs, e1, .inr hp, RpL.mono sm _ _ r⟩
    | str b2 =>
      cases d1 <;> try (exact nomatch (show (R.bad : R Bool) = R.ok b from e))
      case str a =>
        obtain rfl := lr_str l1; obtain rfl := lr_str l2
        cases e
        refine op_in_str pins s σ H _ _ v u Q I rx ry ⟨_, _, rfl, rfl, ?_⟩
        rw [sx_len]
        exact q
    | _ => cases d1 <;> exact nomatch (show (R.bad : R Bool) = R.ok b from e)
  | nin =>
    have lst : ∀ {xs : List D}, (if d1.cl 0 && xs.all (D.cl 0) then R.ok (!decide (d1 ∈ xs)) else R.bad) = R.ok b → (∃ p vs, y = .ref p ∧ (H p = some (.lst vs) ∨ H p = some (.tup vs)) ∧ RpL X.K H xs vs) →
        wpAny (model X.prog X.w) X.A (compareOp .NotIn v u) (EP X pins σ Q) X.xe s := fun {xs} e hy => by
      obtain ⟨p, vs, rfl, hp, r⟩ := hy
      split at e
      · rename_i hc
        rw [Bool.and_eq_true] at hc
        cases e
        have r1 := l1.full sm
        refine op_notIn_seq pins s σ H _ _ v u Q I rx ry ⟨p, vs, rfl, ?_, flat0 hc.1 r1, flats0 hc.2 r, ?_⟩
        · rcases hp with hp | hp
          · exact .inl (SqL.of hp)
          · exact .inr (SqT.of hp)
        · rw [if_pos rfl, inV0 hc.1 r1 hc.2 r]
          exact q
      · cases e
    cases d2 with
    | lst xs =>
      obtain ⟨p, vs, e1, hp, r⟩ := l2
      exact lst (by cases d1 <;> exact e) ⟨p, vs, e1, .inl hp, RpL.mono sm _ _ r⟩
    | tup xs =>
      obtain ⟨p, vs, e1, _, hp, r⟩ := lr_tup sm l2
      exact lst (by cases d1 <;> exact e) ⟨p, vs, e1, .inr hp, RpL.mono sm _ _ r⟩
    | str b2 =>
      cases d1 <;> try (exact nomatch (show (R.bad : R Bool) = R.ok b from e))
      case str a =>
        obtain rfl := lr_str l1; obtain rfl := lr_str l2
        cases e
        refine L2.op_notIn_str pins s σ H _ _ v u Q I rx ry ⟨_, _, rfl, rfl, ?_⟩
        rw [sx_len]
        exact q
    | _ => cases d1 <;> exact nomatch (show (R.bad : R Bool) = R.ok b from e)
  | is =>
    cases d2 with
    | non =>
      obtain rfl := lr_non l2
      have r1 := l1.full sm
      refine op_isN pins s σ H _ _ v u Q I rx ry ⟨rfl, ?_⟩
      have e2 : decide (x = V.non) = b := by
        cases d1 with
        | non => rw [Rp] at r1; subst r1; cases e; rfl
        | bl b => rw [Rp] at r1; subst r1; cases e; rfl
        | int b => rw [Rp] at r1; subst r1; cases e; rfl
        | str b => rw [Rp] at r1; subst r1; cases e; rfl
        | lst b => rw [Rp] at r1; obtain ⟨a, vs, e1, _⟩ := r1; subst e1; cases e; rfl
        | tup b => rw [Rp] at r1; obtain ⟨a, vs, e1, _⟩ := r1; subst e1; cases e; rfl
        | dic _ _ => rw [Rp] at r1; exact r1.elim
        | ins _ _ _ => rw [Rp] at r1; obtain ⟨a, dx, fsV, vs, e1, _⟩ := r1; subst e1; cases e; rfl
        | scr _ => rw [Rp] at r1; obtain ⟨a, e1, _⟩ := r1; subst e1; cases e; rfl
      rw [e2]
      exact q
    | bl c =>
      cases d1 <;> try (exact nomatch (show (R.bad : R Bool) = R.ok b from e))
      case bl a =>
        obtain rfl := lr_bl l1; obtain rfl := lr_bl l2
        cases e
        refine op_isBl pins s σ H _ _ v u Q I rx ry ⟨a, c, rfl, rfl, ?_⟩
        rw [← Bool.beq_eq_decide_eq]
        exact q
    | _ => cases d1 <;> exact nomatch (show (R.bad : R Bool) = R.ok b from e)
  | isn =>
    cases d2 with
    | non =>
      obtain rfl := lr_non l2
      have r1 := l1.full sm
      refine op_notN pins s σ H _ _ v u Q I rx ry ⟨rfl, ?_⟩
      have e2 : (!decide (x = V.non)) = b := by
        cases d1 with
        | non => rw [Rp] at r1; subst r1; cases e; rfl
        | bl b => rw [Rp] at r1; subst r1; cases e; rfl
        | int b => rw [Rp] at r1; subst r1; cases e; rfl
        | str b => rw [Rp] at r1; subst r1; cases e; rfl
        | lst b => rw [Rp] at r1; obtain ⟨a, vs, e1, _⟩ := r1; subst e1; cases e; rfl
        | tup b => rw [Rp] at r1; obtain ⟨a, vs, e1, _⟩ := r1; subst e1; cases e; rfl
        | dic _ _ => rw [Rp] at r1; exact r1.elim
        | ins _ _ _ => rw [Rp] at r1; obtain ⟨a, dx, fsV, vs, e1, _⟩ := r1; subst e1; cases e; rfl
        | scr _ => rw [Rp] at r1; obtain ⟨a, e1, _⟩ := r1; subst e1; cases e; rfl
      rw [e2]
      exact q
    | bl c =>
      cases d1 <;> try (exact nomatch (show (R.bad : R Bool) = R.ok b from e))
      case bl a =>
        obtain rfl := lr_bl l1; obtain rfl := lr_bl l2
        cases e
        refine op_notBl pins s σ H _ _ v u Q I rx ry ⟨a, c, rfl, rfl, ?_⟩
        rw [← Bool.beq_eq_decide_eq]
        exact q
    | _ => cases d1 <;> exact nomatch (show (R.bad : R Bool) = R.ok b from e)
end
end Fv
end
section
set_option maxHeartbeats 1000000
namespace Fv
open PySem PySem.Spec PyProof.Rows L2
def LRs (K : PySem.W.Frag) (F H : Hp) : List D → List V → Prop
  | [], vs => vs = []
  | x :: xs, vs => ∃ v r, vs = v :: r ∧ LR K F H x v ∧ LRs K F H xs r
section
variable {K : PySem.W.Frag} {F F' H H' : Hp} {Q : VK}
theorem LRs.full : ∀ {xs : List D} {vs : List V}, Same F H → LRs K F H xs vs → RpL K H xs vs
  | [], _, _, h => by rw [RpL]; exact h
  | x :: xs, _, e, h => by
    obtain ⟨v, r, rfl, h1, h2⟩ := h
    exact RpL.cons (h1.full e) (h2.full e)
theorem LRs.grow (g : Grow F F' H H') : ∀ {xs : List D} {vs : List V}, LRs K F H xs vs → LRs K F' H' xs vs
  | [], _, h => h
  | x :: xs, _, h => by
    obtain ⟨v, r, rfl, h1, h2⟩ := h
    exact ⟨v, r, rfl, h1.grow g, LRs.grow g h2⟩
theorem LRs.len : ∀ {xs : List D} {vs : List V}, LRs K F H xs vs → xs.length = vs.length
  | [], _, h => by rw [show _ = [] from h]; rfl
  | x :: xs, _, h => by
    obtain ⟨v, r, rfl, h1, h2⟩ := h
    rw [List.length_cons, List.length_cons, LRs.len h2]
theorem LRs.one {x : D} {vs : List V} (h : LRs K F H [x] vs) : ∃ v, vs = [v] ∧ LR K F H x v := by
  obtain ⟨v, r, rfl, h1, h2⟩ := h
  rw [show r = [] from h2]
  exact ⟨v, rfl, h1⟩
theorem LRs.two {x y : D} {vs : List V} (h : LRs K F H [x, y] vs) : ∃ v w, vs = [v, w] ∧ LR K F H x v ∧ LR K F H y w := by
  obtain ⟨v, r, rfl, h1, h2⟩ := h
  obtain ⟨w, rfl, h3⟩ := LRs.one h2
  exact ⟨v, w, rfl, h1, h3⟩
theorem lr_scr {ns : List Int} {x : V} (e : Same F H) (h : LR K F H (.scr ns) x) : ∃ a, x = .ref a ∧ SqL K H a (ns.map V.int) := by
  have h1 : Rp K F (.scr ns) x := h
  rw [Rp] at h1
  obtain ⟨a, e1, e2⟩ := h1
  exact ⟨a, e1, e.seq e2⟩
theorem rpl_ints : ∀ ns : List Int, RpL K F (ns.map D.int) (ns.map V.int)
  | [] => RpL.nil
  | n :: ns => RpL.cons rp_int (rpl_ints ns)
end
theorem truth_ok {K : PySem.W.Frag} {F H : Hp} {x : D} {v : V} {k : Bool} (e : Same F H) (h : LR K F H x v) (t : x.truth = .ok k) : TruV K v H k := by
  cases x with
  | non => obtain rfl := lr_non h; cases t; rfl
  | bl b => obtain rfl := lr_bl h; cases t; rfl
  | int i => obtain rfl := lr_int h; cases t; rfl
  | str s =>
    obtain rfl := lr_str h
    have t : (if s.length ≤ LINE then R.ok (!s.isEmpty) else R.bad) = R.ok k := t
    split at t
    · rename_i hz
      cases t
      refine ⟨by rw [sx_len, ← line_eq]; exact hz, ?_⟩
      rw [sx_len]
      cases s with
      | nil => rfl
      | cons c r =>
        symm
        rw [List.length_cons]
        exact bne_iff_ne.mpr (by omega)
    · cases t
  | lst xs =>
    obtain ⟨p, vs, rfl, hp, r⟩ := h
    cases t
    refine .inl ⟨vs, SqL.of hp, ?_⟩
    have := r.len
    cases xs <;> cases vs <;> first | rfl | (simp at this)
  | tup xs =>
    obtain ⟨p, vs, rfl, _, hp, r⟩ := lr_tup e h
    cases t
    refine .inr (.inl ⟨vs, SqT.of hp, ?_⟩)
    have := r.len
    cases xs <;> cases vs <;> first | rfl | (simp at this)
  | _ => cases t
def Bi.name : Bi → Str
  | .len => "len" | .int => "int" | .str => "str" | .abs => "abs" | .min2 => "min" | .max2 => "max" | .divmod => "divmod" | .tuple => "tuple" | .list => "list" | .sum => "sum" | .all => "all" | .any => "any"
def Bi.fn : Bi → Value
  | .len => .builtin "len" | .int => .type "int" | .str => .type "str" | .abs => .builtin "abs" | .min2 => .builtin "min" | .max2 => .builtin "max" | .divmod => .builtin "divmod" | .tuple => .type "tuple" | .list => .type "list"
  | .sum => .builtin "sum" | .all => .builtin "all" | .any => .builtin "any"
def rBi (K : PySem.W.Frag) (b : Bi) : List V → Hp → VK → Prop := fun vs H Q => ∃ F ds val, Same F H ∧ LRs K F H ds vs ∧ biD b ds = .ok val ∧ ∀ F' H' v, Grow F F' H H' → VR K F' H H' val v → Q v H'
theorem itx_str (i : Int) : (toString i : Str) = ⟨(itx i).toArray⟩ := by
  unfold itx
  exact TL.ext_tl rfl
section
variable {X : Cx}
theorem cr_bi (b : Bi) (hc : X.calm = true) : CallR X b.fn (rBi X.K b) := by
  intro pins s σ H vs us Q I r h
  obtain ⟨F, ds, val, sm, l, e, q⟩ := h
  revert l e
  match ds with
  | [] => intro l e; cases b <;> exact nomatch (show (R.bad : R Val) = R.ok val from e)
  | [x] =>
    intro l e
    obtain ⟨v, rfl, l1⟩ := l.one
    clear l
    cases b <;> cases x <;> try (exact nomatch (show (R.bad : R Val) = R.ok val from e))
    case len.str s1 =>
      obtain rfl := lr_str l1
      have e : (if s1.length ≤ LINE then R.ok (Val.d (.int s1.length)) else R.bad) = R.ok val := e
      split at e
      · rename_i hz
        cases e
        refine call_len pins s σ H _ us Q I r ⟨_, s1.length, rfl, ⟨by rw [sx_len, ← line_eq]; exact hz, by rw [sx_len]⟩, endV sm q rfl rp_int⟩
      · cases e
    case len.lst xs =>
      obtain ⟨p, ws, rfl, hp, r1⟩ := l1
      cases e
      exact call_len pins s σ H _ us Q I r ⟨_, xs.length, rfl, .inl ⟨ws, SqL.of hp, r1.len⟩, endV sm q rfl rp_int⟩
    case len.tup xs =>
      obtain ⟨p, ws, rfl, _, hp, r1⟩ := lr_tup sm l1
      cases e
      exact call_len pins s σ H _ us Q I r ⟨_, xs.length, rfl, .inr ⟨ws, SqT.of hp, r1.len⟩, endV sm q rfl rp_int⟩
    case len.scr ns =>
      obtain ⟨p, rfl, hp⟩ := lr_scr sm l1
      cases e
      exact call_len pins s σ H _ us Q I r ⟨_, ns.length, rfl, .inl ⟨_, hp, by rw [List.length_map]⟩, endV sm q rfl rp_int⟩
    case int.bl k =>
      obtain rfl := lr_bl l1
      cases e
      exact call_int1 pins s σ H _ us Q I r (.inr ⟨k, rfl, endV sm q rfl rp_int⟩)
    case int.int i =>
      obtain rfl := lr_int l1
      cases e
      exact call_int1 pins s σ H _ us Q I r (.inl ⟨i, rfl, endV sm q rfl rp_int⟩)
    case int.str s1 =>
      obtain rfl := lr_str l1
      have e : (if s1.length ≤ 640 then (optR (intOf s1) (fun n => R.ok (Val.d (.int n)))) else R.bad) = R.ok val := e
      split at e
      · rename_i hz
        cases ei : intOf s1 with
        | none => rw [ei] at e; cases e
        | some n =>
          rw [ei] at e
          cases e
          exact call_int_str pins s σ H _ us Q I r ⟨_, n, rfl, ei, by rw [sx_len]; exact hz, endV sm q rfl rp_int⟩
      · cases e
    case str.str s1 =>
      obtain rfl := lr_str l1
      cases e
      exact SkE.call_str_str pins s σ H _ us Q I r ⟨_, rfl, endV sm q rfl rp_str⟩
    case str.int i =>
      obtain rfl := lr_int l1
      have e : (if i.natAbs.log2 < 1920 then R.ok (Val.d (.str (itx i))) else R.bad) = R.ok val := e
      split at e
      · rename_i hz
        cases e
        refine call_str_int pins s σ H _ us Q I r ⟨i, rfl, hz, ?_⟩
        rw [itx_str]
        exact endV sm q rfl rp_str
      · cases e
    case abs.int i =>
      obtain rfl := lr_int l1
      cases e
      exact call_abs pins s σ H _ us Q I r ⟨i, rfl, endV sm q rfl rp_int⟩
    case tuple.lst xs =>
      obtain ⟨p, ws, rfl, hp, r1⟩ := l1
      cases e
      exact call_tuple_of pins s σ H _ us Q I r ⟨p, ws, rfl, .inl ⟨SqL.of hp, endT sm q rfl r1⟩⟩
    case tuple.tup xs =>
      obtain ⟨p, ws, rfl, fp, hp, r1⟩ := lr_tup sm l1
      cases e
      exact call_tuple_of pins s σ H _ us Q I r ⟨p, ws, rfl, .inr ⟨SqT.of hp, endV sm q rfl (rp_tup fp r1)⟩⟩
    case list.lst xs =>
      obtain ⟨p, ws, rfl, hp, r1⟩ := l1
      cases e
      exact call_list_of pins s σ H _ us Q I r ⟨p, ws, rfl, .inl (SqL.of hp), endL sm q rfl r1⟩
    case list.tup xs =>
      obtain ⟨p, ws, rfl, fp, hp, r1⟩ := lr_tup sm l1
      cases e
      exact call_list_of pins s σ H _ us Q I r ⟨p, ws, rfl, .inr (SqT.of hp), endL sm q rfl r1⟩
    case sum.lst xs =>
      obtain ⟨p, ws, rfl, hp, r1⟩ := l1
      have e : (optR (intsOf xs) (fun ns => R.ok (Val.d (.int ns.sum)))) = R.ok val := e
      cases ei : intsOf xs with
      | none => rw [ei] at e; cases e
      | some ns =>
        rw [ei] at e
        cases e
        have := RpL.ints r1 ei
        subst this
        exact cr_sum hc pins s σ H _ us Q I r ⟨p, ns, rfl, SqL.of hp, endV sm q rfl rp_int⟩
    case all.lst xs =>
      obtain ⟨p, ws, rfl, hp, r1⟩ := l1
      have e : (optR (allBl xs) (fun bs => R.ok (Val.d (.bl (bs.all id))))) = R.ok val := e
      cases ei : allBl xs with
      | none => rw [ei] at e; cases e
      | some ns =>
        rw [ei] at e
        cases e
        have := RpL.bls r1 ei
        subst this
        exact cr_all hc pins s σ H _ us Q I r ⟨p, ns, rfl, SqL.of hp, endV sm q rfl rp_bl⟩
    case any.lst xs =>
      obtain ⟨p, ws, rfl, hp, r1⟩ := l1
      have e : (optR (allBl xs) (fun bs => R.ok (Val.d (.bl (bs.any id))))) = R.ok val := e
      cases ei : allBl xs with
      | none => rw [ei] at e; cases e
      | some ns =>
        rw [ei] at e
        cases e
        have := RpL.bls r1 ei
        subst this
        exact cr_any hc pins s σ H _ us Q I r ⟨p, ns, rfl, SqL.of hp, endV sm q rfl rp_bl⟩
  | [x, y] =>
    intro l e
    obtain ⟨v, w, rfl, l1, l2⟩ := l.two
    clear l
    cases b <;> cases x <;> cases y <;> try (exact nomatch (show (R.bad : R Val) = R.ok val from e))
    case min2.int.int i j =>
      obtain rfl := lr_int l1; obtain rfl := lr_int l2
      cases e
      exact call_min2 hc pins s σ H _ us Q I r ⟨i, j, rfl, endV sm q rfl rp_int⟩
    case max2.int.int i j =>
      obtain rfl := lr_int l1; obtain rfl := lr_int l2
      cases e
      exact call_max2 hc pins s σ H _ us Q I r ⟨i, j, rfl, endV sm q rfl rp_int⟩
    case divmod.int.int i j =>
      obtain rfl := lr_int l1; obtain rfl := lr_int l2
      have e : (if 0 < j ∧ j < 1073741824 then R.ok (Val.d (.tup [.int (i / j), .int (i % j)])) else R.bad) = R.ok val := e
      split at e
      · rename_i hz
        cases e
        exact call_divmod pins s σ H _ us Q I r ⟨i, j, rfl, hz, endT sm q rfl (RpL.cons rp_int (RpL.cons rp_int RpL.nil))⟩
      · cases e
  | x :: y :: z :: ds => intro l e; cases b <;> cases x <;> first | exact nomatch (show (R.bad : R Val) = R.ok val from e) | (cases y <;> exact nomatch (show (R.bad : R Val) = R.ok val from e))
theorem ixN_eq (n : Nat) (i : Int) : ixN n i = ixOf n i := by
  unfold ixN ixOf
  first
    | rfl
    | (split <;> split <;> first | rfl | omega | (split <;> first | rfl | omega))
def rSub (K : PySem.W.Frag) : R2 := fun x y H Q => ∃ F d1 d2 z, Same F H ∧ LR K F H d1 x ∧ LR K F H d2 y ∧ subD d1 d2 = .ok z ∧ ∀ v, Rp K F z v → Q v H
theorem at_lst {K : PySem.W.Frag} {F : Hp} {xs : List D} {vs : List V} {i : Int} {z : D} (r : RpL K F xs vs) (e : (optR ((ixOf xs.length i).bind (xs[·]?)) (fun x => R.ok x)) = R.ok z) : ∃ v, atI vs i = some v ∧ Rp K F z v := by
  cases e1 : (ixOf xs.length i).bind (xs[·]?) with
  | none => rw [e1] at e; cases e
  | some x =>
    rw [e1] at e
    cases e
    rw [Option.bind_eq_some_iff] at e1
    obtain ⟨j, e2, e3⟩ := e1
    obtain ⟨v, h1, h2⟩ := r.get e3
    refine ⟨v, ?_, h2⟩
    unfold atI
    rw [ixN_eq, ← r.len, e2]
    exact h1
theorem ix_all : IxR X (rSub X.K) := by
  intro value slice pins s σ H x y v u Q I rx ry h hs
  obtain ⟨F, d1, d2, z, sm, l1, l2, e, q⟩ := h
  cases d1 <;> cases d2 <;> try (exact nomatch (show (R.bad : R D) = R.ok z from e))
  case str.int s1 i =>
    obtain rfl := lr_str l1; obtain rfl := lr_int l2
    have e : (if s1.length ≤ LINE then (optR ((ixOf s1.length i).bind (s1[·]?)) (fun x => R.ok (D.str [x]))) else R.bad) = R.ok z := e
    split at e
    · rename_i hz
      cases e1 : (ixOf s1.length i).bind (s1[·]?) with
      | none => rw [e1] at e; cases e
      | some c =>
        rw [e1] at e
        cases e
        refine ix_str value slice pins s σ H _ _ v u Q I rx ry ⟨_, i, c, rfl, rfl, by rw [sx_len, ← line_eq]; exact hz, ?_, q _ rp_str⟩ hs
        unfold atI
        rw [ixN_eq]
        exact e1
    · cases e
  case lst.int xs i =>
    obtain ⟨p, ws, rfl, hp, r1⟩ := l1
    obtain rfl := lr_int l2
    obtain ⟨w, h1, h2⟩ := at_lst r1 e
    exact ix_list value slice pins s σ H _ _ v u Q I rx ry ⟨p, ws, i, w, rfl, rfl, SqL.of hp, h1, q _ h2⟩ hs
  case tup.int xs i =>
    obtain ⟨p, ws, rfl, _, hp, r1⟩ := lr_tup sm l1
    obtain rfl := lr_int l2
    obtain ⟨w, h1, h2⟩ := at_lst r1 e
    exact ix_tup value slice pins s σ H _ _ v u Q I rx ry ⟨p, ws, i, w, rfl, rfl, SqT.of hp, h1, q _ h2⟩ hs
  case scr.int ns i =>
    obtain ⟨p, rfl, hp⟩ := lr_scr sm l1
    obtain rfl := lr_int l2
    have e : (optR ((ixOf ns.length i).bind (ns[·]?)) (fun x => R.ok (D.int x))) = R.ok z := e
    cases e1 : (ixOf ns.length i).bind (ns[·]?) with
    | none => rw [e1] at e; cases e
    | some k =>
      rw [e1] at e
      cases e
      refine ix_list value slice pins s σ H _ _ v u Q I rx ry ⟨p, _, i, .int k, rfl, rfl, hp, ?_, q _ rp_int⟩ hs
      unfold atI
      rw [ixN_eq, List.length_map]
      rw [Option.bind_eq_some_iff] at e1 ⊢
      obtain ⟨j, e2, e3⟩ := e1
      refine ⟨j, e2, ?_⟩
      rw [List.getElem?_map, e3]
      rfl
def rSlc (K : PySem.W.Frag) : V → Option Int → Option Int → Hp → VK → Prop := fun x lo hi H Q => ∃ F d val, Same F H ∧ LR K F H d x ∧ slcD d lo hi = .ok val ∧ ∀ F' H' v, Grow F F' H H' → VR K F' H H' val v → Q v H'
theorem rpl_cut {K : PySem.W.Frag} {F : Hp} {xs : List D} {vs : List V} (r : RpL K F xs vs) (lo hi : Option Int) : RpL K F (cut xs lo hi) (cutV vs lo hi) := by
  unfold cut cutV
  rw [r.len]
  exact (r.drop _).take _
theorem cut_str (s : Tx) (lo hi : Option Int) : cutS ⟨s.toArray⟩ lo hi = ⟨(cut s lo hi).toArray⟩ := by
  rw [← sliceText_cut]
  refine TL.ext_tl ?_
  rw [sliceText_cut]
  unfold cutS cut
  first
    | rfl
    | (simp [TL.tl, Str.length])
theorem sl_all : SlR X (rSlc X.K) := by
  intro pins s σ H x v vl vu lo hi sl Q I rx hs pl pu h
  obtain ⟨F, d, val, sm, l, e, q⟩ := h
  cases d <;> try (exact nomatch (show (R.bad : R Val) = R.ok val from e))
  case lst xs =>
    obtain ⟨p, ws, rfl, hp, r1⟩ := l
    cases e
    exact sl_list pins s σ H _ v vl vu lo hi sl Q I rx hs pl pu ⟨p, ws, rfl, SqL.of hp, endL sm q rfl (rpl_cut r1 lo hi)⟩
  case str s1 =>
    obtain rfl := lr_str l
    have e : (if s1.length ≤ LINE then R.ok (Val.d (.str (cut s1 lo hi))) else R.bad) = R.ok val := e
    split at e
    · rename_i hz
      cases e
      refine sl_str pins s σ H _ v vl vu lo hi sl Q I rx hs pl pu ⟨_, rfl, by rw [sx_len, ← line_eq]; exact hz, ?_⟩
      rw [cut_str]
      exact endV sm q rfl rp_str
    · cases e
  case tup xs =>
    obtain ⟨p, ws, rfl, fp, hp, r1⟩ := lr_tup sm l
    have e : (if HT.sIx xs.length 0 lo = 0 ∧ HT.sIx xs.length xs.length hi = xs.length then R.bad else R.ok (Val.d (.tup (cut xs lo hi)))) = R.ok val := e
    split at e
    · cases e
    · rename_i hz
      cases e
      refine sl_tup pins s σ H _ v vl vu lo hi sl Q I rx hs pl pu ⟨p, ws, rfl, SqT.of hp, by rw [← r1.len]; exact hz, endT sm q rfl (rpl_cut r1 lo hi)⟩
  case scr ns =>
    obtain ⟨p, rfl, hp⟩ := lr_scr sm l
    cases e
    refine sl_list pins s σ H _ v vl vu lo hi sl Q I rx hs pl pu ⟨p, _, rfl, hp, endL sm q rfl ?_⟩
    have e2 : cutV (ns.map V.int) lo hi = (cut ns lo hi).map V.int := by
      unfold cutV cut
      rw [List.length_map, List.map_take, List.map_drop]
    rw [e2]
    exact rpl_ints _
end
def rM1 (K : PySem.W.Frag) (m : M1) : V → List V → Hp → VK → Prop := fun x vs H Q => ∃ F s d v val, x = .str ⟨List.toArray s⟩ ∧ vs = [v] ∧ Same F H ∧ LR K F H d v ∧ m1D m s d = .ok val ∧ ∀ F' H' w, Grow F F' H H' → VR K F' H H' val w → Q w H'
theorem RpL.strs {K : PySem.W.Frag} {F : Hp} : ∀ {xs : List D} {vs : List V} {ys : List Tx}, RpL K F xs vs → strsOf xs = some ys → vs = (ys.map fun s => (⟨List.toArray s⟩ : Str)).map V.str
  | [], _, ns, h, e => by
    rw [RpL] at h
    rw [strsOf] at e
    cases e
    rw [h]; rfl
  | x :: xs, _, ns, h, e => by
    rw [RpL] at h
    obtain ⟨v, r, rfl, h1, h2⟩ := h
    cases x with
    | str i =>
      rw [strsOf] at e
      cases q : strsOf xs with
      | none => rw [q] at e; cases e
      | some ms =>
        rw [q] at e
        cases e
        rw [Rp] at h1
        rw [h1, RpL.strs h2 q]; rfl
    | _ => simp [strsOf] at e
theorem rpL_strs {K : PySem.W.Frag} {F : Hp} : ∀ ys : List Tx, RpL K F (ys.map D.str) ((ys.map fun s => (⟨List.toArray s⟩ : Str)).map V.str)
  | [] => RpL.nil
  | y :: ys => RpL.cons rp_str (rpL_strs ys)
theorem mt_m1split {X : Cx} : MtR X "str.split" (rM1 X.K .split) := by
  intro pins s σ H x xs v us Q I rx rs h
  obtain ⟨F, a, d, y, val, rfl, rfl, sm, l, e, q⟩ := h
  cases d with
  | str b =>
    obtain rfl := lr_str l
    have e : (if b ≠ [] ∧ b.all (· < 256) = true ∧ a.length + 2 ≤ LINE then R.ok (Val.fr ((TL.spl b 0 [] a).map .str)) else .bad) = .ok val := e
    by_cases hz : b ≠ [] ∧ b.all (· < 256) = true ∧ a.length + 2 ≤ LINE
    · rw [if_pos hz] at e
      cases e
      refine mt_split pins s σ H _ _ v us Q I rx rs ⟨_, _, rfl, rfl, ?_, ?_, ?_⟩
      · have : (⟨List.toArray b⟩ : Str).length = b.length := SX.S_len b
        rw [this]
        cases b with
        | nil => exact absurd rfl hz.1
        | cons _ _ => rfl
      · have : (⟨List.toArray a⟩ : Str).length = a.length := SX.S_len a
        rw [this, ← line_eq]
        exact hz.2.2
      · rw [show Txt.split ⟨List.toArray a⟩ ⟨List.toArray b⟩ = (TL.spl b 0 [] a).map SX.S from SX.split_S hz.1 hz.2.1]
        intro p hp
        exact q F _ _ (Grow.newH sm hp) ⟨p, _, rfl, hp, upd_same, sm.free hp, rpL_strs _⟩
    · rw [if_neg hz] at e
      cases e
  | _ => cases e
theorem mt_m1join {X : Cx} : MtR X "str.join" (rM1 X.K .join) := by
  intro pins s σ H x xs v us Q I rx rs h
  obtain ⟨F, a, d, y, val, rfl, rfl, sm, l, e, q⟩ := h
  cases d with
  | lst ds =>
    obtain ⟨p, vs, rfl, hp, r⟩ := l
    have e : optR (strsOf ds) (fun ys => if (ys.map List.length).sum + ys.length * a.length ≤ LINE then R.ok (Val.d (.str (TL.joinL a ys))) else .bad) = .ok val := e
    cases e1 : strsOf ds with
    | none => rw [e1] at e; cases e
    | some ys =>
      rw [e1] at e
      have e : (if (ys.map List.length).sum + ys.length * a.length ≤ LINE then R.ok (Val.d (.str (TL.joinL a ys))) else .bad) = .ok val := e
      by_cases hz : (ys.map List.length).sum + ys.length * a.length ≤ LINE
      · rw [if_pos hz] at e
        cases e
        refine mt_join pins s σ H _ _ v us Q I rx rs ⟨_, p, ys.map fun s => (⟨List.toArray s⟩ : Str), rfl, rfl, .inl ?_, ?_, ?_⟩
        · rw [← r.strs e1]
          exact SqL.of hp
        · have e2 : ((ys.map fun s => (⟨List.toArray s⟩ : Str)).map (·.length)) = ys.map List.length := SX.lens ys
          have e3 : (⟨List.toArray a⟩ : Str).length = a.length := SX.S_len a
          rw [e2, e3, List.length_map]
          exact hz
        · rw [show Txt.join ⟨List.toArray a⟩ (ys.map fun s => (⟨List.toArray s⟩ : Str)) = SX.S (TL.joinL a ys) from SX.join_S a ys]
          exact q F H _ (Grow.refl sm) (show Rp X.K F (.str _) _ from rp_str)
      · rw [if_neg hz] at e
        cases e
  | _ => cases e
end Fv
end
section
set_option maxHeartbeats 1000000
namespace Fv
open PySem PySem.Spec PyProof.Rows L2

inductive Gc where
  | int (i : Int) | str (s : Str)
structure Ck where
  N : List Str
  sc : Scope
  ts : Scope
  /-- the module's constants -/
  G : List (Str × Gc)
  /-- built-in names that the module does not bind -/
  fr : List Str
  /-- defs that may be called: by so many arguments -/
  fn : List (String × Nat)
  /-- fields that may be asked for, by classes -/
  at_ : List (String × String)
  /-- methods that may be called: by so many arguments -/
  me : List (String × String × Nat)
  /-- classes of which instances may be made: by so many arguments -/
  mks : List (String × Nat)
  /-- bases whose __init__ may be called: by so many arguments behind self -/
  bas : List (String × Nat)
def cstB : D → Const → Bool
  | .non, .none => true
  | .bl a, .bool b => a == b
  | .int i, .int j => decide (i = j)
  | .str s, .str z => decide (z = ⟨s.toArray⟩)
  | _, _ => false
def gcB : D → Gc → Bool
  | .int i, .int j => decide (i = j)
  | .str s, .str z => decide (z = ⟨s.toArray⟩)
  | _, _ => false
def visB (sc : Scope) (x : Str) : Bool := match sc.names.lookup x with
  | some .local => true
  | some .cell => true
  | some .free => true
  | _ => false
def locB (sc : Scope) (x : Str) : Bool := match sc.names.lookup x with
  | some .local => true
  | some .cell => true
  | _ => false
def gloB (sc : Scope) (x : Str) : Bool := decide (sc.names.lookup x = some .globalImplicit) && !(x == ("__debug__" : Str)) && !(x == ("__name__" : Str))
/-- the target's slots are the block's own -/
def tgIn (vs : List Nat) : Tg → Bool
  | .one i => vs.contains i
  | .tup is => is.all fun i => vs.contains i
def isStar : Expr → Bool
  | .Starred _ _ => true
  | _ => false
def embT (c : Ck) : Tg → Expr → Bool
  | .one i, e => match e with
    | .Name x _ => decide (c.N[i]? = some x) && locB c.ts x
    | _ => false
  | .tup is, e => match e with
    | .Tuple es _ _ => decide (es.length = is.length) && (is.zip es).all fun p => match p.2 with
      | .Name x _ => decide (c.N[p.1]? = some x) && locB c.ts x
      | _ => false
    | _ => false
def M1.name : M1 → Str
  | .split => "split"
  | .join => "join"
def noCall : Expr → Bool
  | .Name _ _ => true
  | .Attribute _ _ _ => true
  | .Subscript _ _ _ => true
  | _ => false
/-- a name, a constant -/
def plainO : Expr → Bool
  | .Name _ _ => true
  | .Constant _ _ _ => true
  | .Subscript _ _ _ => true
  | .Call _ (_ :: _) _ _ => true
  | _ => false
/-- enumerate's pairs go to a tuple -/
def tgOk : It → Expr → Bool
  | .enum _, t => match t with
    | .Tuple _ _ _ => true
    | _ => false
  | _, _ => true
mutual
def emb (c : Ck) : Ex → Expr → Bool
  | .var i, e => match e with
    | .Name x _ => decide (c.N[i]? = some x) && (visB c.sc x && (!(x == ("__debug__" : Str)) && !(x == ("__classdict__" : Str))))
    | _ => false
  | .cst d, e => match e with
    | .Constant k _ _ => cstB d k
    | .Name x _ => gloB c.sc x && (match c.G.lookup x with | some g => gcB d g | none => false)
    | _ => false
  | .bin o a b, e => match e with
    | .BinOp l op r _ => decide (op = o.op) && (emb c a l && emb c b r)
    | _ => false
  | .neg a, e => match e with
    | .UnaryOp op l _ => decide (op = .USub) && emb c a l
    | _ => false
  | .nt a, e => match e with
    | .UnaryOp op l _ => decide (op = .Not) && emb c a l
    | _ => false
  | .cmp o a b, e => match e with
    | .Compare l [op] [r] _ => decide (op = o.op) && (emb c a l && (emb c b r && !behindInMarks op r))
    | _ => false
  | .chn o p a b d, e => match e with
    | .Compare l [op, op'] [r, r'] _ => decide (op = o.op) && (decide (op' = p.op) && (emb c a l && (emb c b r && (emb c d r' && !lastMarks [op, op'] [r, r']))))
    | _ => false
  | .and a b, e => match e with
    | .BoolOp op (l :: r :: rest) pos => decide (op = .And) && (emb c a l && (match rest with | [] => emb c b r | _ => emb c b (.BoolOp .And (r :: rest) pos)))
    | _ => false
  | .or a b, e => match e with
    | .BoolOp op (l :: r :: rest) pos => decide (op = .Or) && (emb c a l && (match rest with | [] => emb c b r | _ => emb c b (.BoolOp .Or (r :: rest) pos)))
    | _ => false
  | .ite _ _ _, _ => false
  | .tup es, e => match e with
    | .Tuple l _ _ => embs c es l
    | _ => false
  | .lst es, e => match e with
    | .List l _ => embs c es l
    | _ => false
  | .sub a i, e => match e with
    | .Subscript l k _ => emb c a l && emb c i k
    | _ => false
  | .slc a lo hi, e => match e with
    | .Subscript l (.Slice (some x) (some y) none _) _ => emb c a l && (emb c lo x && emb c hi y)
    | _ => false
  | .slcL a lo, e => match e with
    | .Subscript l (.Slice (some x) none none _) _ => emb c a l && emb c lo x
    | _ => false
  | .slcH a hi, e => match e with
    | .Subscript l (.Slice none (some y) none _) _ => emb c a l && emb c hi y
    | _ => false
  | .call f es, e => match e with
    | .Call (.Name x _) l [] _ => decide (x = Str.ofString f) && (gloB c.sc x && (c.fn.contains (f, l.length) && embs c es l))
    | _ => false
  | .bi b es, e => match e with
    | .Call (.Name x _) l [] _ => decide (x = b.name) && (gloB c.sc x && (c.fr.contains x && (!l.isEmpty && embs c es l)))
    | _ => false
  | .isa a t, e => match e with
    | .Call (.Name x _) [l, .Name y _] [] _ => decide (x = ("isinstance" : Str)) && (decide (y = Str.ofString t) && (gloB c.sc x && (gloB c.sc y && (c.fr.contains x && (c.fr.contains y && (decide (t ∈ isaT) && emb c a l))))))
    | _ => false
  | .lc own tg it d e, ex => match ex with
    | .ListComp l [⟨t, i, ifs, 0⟩] scope _ => blkC c.N c.sc scope own && (tgIn (own.map (·.2)) tg && ((embI c it i && tgOk it t) && (embT { c with sc := relS scope c.sc, ts := scope } tg t && (emb { c with sc := relS scope c.sc, ts := scope } e l && (match ifs with
      | [] => (match d with | .cst (.bl true) => true | _ => false)
      | [z] => emb { c with sc := relS scope c.sc, ts := scope } d z
      | _ => false)))))
    | _ => false
  | .m1 m a b, e => match e with
    | .Call (.Attribute o n apos) [l] [] cpos => decide (n = m.name) && (plainO o && ((apos.endLine == cpos.line) && (!isStar l && (emb c a o && emb c b l))))
    | _ => false
  | .rev a, e => match e with
    | .Subscript l (.Slice none none (some (.UnaryOp .USub (.Constant (.int 1) _ _) _)) _) _ => emb c a l
    | _ => false
  | .lrg1 b, e => match e with
    | .Call (.Name x _) [.Call (.Name y _) [l] [] q] [] _ => decide (x = ("list" : Str)) && (decide (y = ("range" : Str)) && (gloB c.sc x && (gloB c.sc y && (c.fr.contains x && (c.fr.contains y && (!isStar l && emb c b l))))))
    | _ => false
  | .lrg a b, e => match e with
    | .Call (.Name x _) [.Call (.Name y _) [l, r] [] q] [] _ => decide (x = ("list" : Str)) && (decide (y = ("range" : Str)) && (gloB c.sc x && (gloB c.sc y && (c.fr.contains x && (c.fr.contains y && (!isStar l && (!isStar r && (emb c a l && emb c b r))))))))
    | _ => false
  | .cnt a b, e => match e with
    | .Call (.Attribute o n apos) [l] [] cpos => decide (n = ("count" : Str)) && (plainO o && ((apos.endLine == cpos.line) && (!isStar l && (emb c a o && emb c b l))))
    | _ => false
  | .fld cs a n, e => match e with
    | .Attribute o f _ => decide (f = Str.ofString n) && (noCall o && ((cs.all fun z => c.at_.contains (z, n)) && emb c a o))
    | _ => false
  | .mth cs a m es, e => match e with
    | .Call (.Attribute o f apos) l [] pos => decide (f = Str.ofString m) && ((noCall o && ((apos.endLine == pos.line) && decide (l.length < 30))) && (!cs.isEmpty && ((cs.all fun z => c.me.contains (z, m, l.length)) && (emb c a o && embs c es l))))
    | _ => false
  | .mk z es, e => match e with
    | .Call (.Name x _) l [] _ => decide (x = Str.ofString z) && (gloB c.sc x && (c.mks.contains (z, l.length) && (!l.isEmpty && embs c es l)))
    | _ => false
def embs (c : Ck) : Exs → List Expr → Bool
  | .nil, l => match l with
    | [] => true
    | _ => false
  | .cons e r, l => match l with
    | x :: l => emb c e x && (!isStar x && embs c r l)
    | _ => false
def embI (c : Ck) : It → Expr → Bool
  | .seq a, e => emb c a e && (match e with | .Set _ _ _ => false | _ => true)
  | .enum a, e => match e with
    | .Call (.Name x _) [l] [] _ => decide (x = ("enumerate" : Str)) && (gloB c.sc x && (c.fr.contains x && (!isStar l && emb c a l)))
    | _ => false
  | .rng a, e => match e with
    | .Call (.Name x _) [l] [] _ => decide (x = ("range" : Str)) && (gloB c.sc x && (c.fr.contains x && (!isStar l && emb c a l)))
    | _ => false
  | .revs a, e => match e with
    | .Call (.Name x _) [l] [] _ => decide (x = ("reversed" : Str)) && (gloB c.sc x && (c.fr.contains x && (!isStar l && emb c a l)))
    | _ => false
  | .rng3 a b d, e => match e with
    | .Call (.Name x _) [l, r, s] [] _ => decide (x = ("range" : Str)) && (gloB c.sc x && (c.fr.contains x && (!isStar l && (!isStar r && (!isStar s && (emb c a l && (emb c b r && emb c d s)))))))
    | _ => false
  | .rng2 a b, e => match e with
    | .Call (.Name x _) [l, r] [] _ => decide (x = ("range" : Str)) && (gloB c.sc x && (c.fr.contains x && (!isStar l && (!isStar r && (emb c a l && emb c b r)))))
    | _ => false
end

/-- what is raised: by the class's name and the fields -/
abbrev EIs := String → List D → Value → Option Addr → Hp → Prop
structure Gv where
  Γ : Fns
  ei : EIs
def RH {α : Type} (r : R α) (ok : α → Prop) (er : String → List D → Prop) : Prop := match r with
  | .ok a => ok a
  | .er c fs => er c fs
  | .bad => False
theorem RH.bind {α β : Type} {r : R α} {f : α → R β} {ok : β → Prop} {er : String → List D → Prop} (h : RH (r >>= f) ok er) : RH r (fun a => RH (f a) ok er) er := by
  cases r with
  | ok a => exact h
  | er c fs => exact h
  | bad => exact h
theorem RH.imp {α : Type} {r : R α} {ok ok' : α → Prop} {er er' : String → List D → Prop} (h : RH r ok er) (h1 : ∀ a, r = .ok a → ok a → ok' a) (h2 : ∀ c fs, er c fs → er' c fs) : RH r ok' er' := by
  cases r with
  | ok a => exact h1 a rfl h
  | er c fs => exact h2 c fs h
  | bad => exact h.elim
/-- what is wanted where it is raised -/
def ErW (g : Gv) (E : XK) (H : Hp) : String → List D → Prop := fun c fs => ∀ cls d H', Same H H' → g.ei c fs cls d H' → E cls d H'
theorem ErW.same {g : Gv} {E : XK} {H H1 : Hp} (s : Same H H1) {c : String} {fs : List D} (h : ErW g E H c fs) : ErW g E H1 c fs := fun cls d H' s' hi => h cls d H' (s.trans s') hi
def tV (K : PySem.W.Frag) (g : Gv) (E : XK) (x : Ex) : TE := fun σ H Q => ∃ B F S, StOk K B F H σ S ∧ RH (ev g.Γ x S) (fun val => ∀ F' H' v, Grow F F' H H' → VR K F' H H' val v → Q v H') (ErW g E H)
def tL (K : PySem.W.Frag) (g : Gv) (E : XK) (x : Ex) : TE := fun σ H Q => ∃ B F S, StOk K B F H σ S ∧ RH (evL g.Γ x S) (fun d => ∀ F' H' v, Grow F F' H H' → LR K F' H' d v → Q v H') (ErW g E H)
def tT (K : PySem.W.Frag) (g : Gv) (E : XK) (x : Ex) : TT := fun σ H Q => ∃ B F S, StOk K B F H σ S ∧ RH (evT g.Γ x S) (fun k => ∀ F' H', Grow F F' H H' → Q k H') (ErW g E H)
/-- an argument list: each is read; kept too where none is a list of one's own -/
def tAs (K : PySem.W.Frag) (g : Gv) (E : XK) (es : Exs) : TA := fun σ H Q => ∃ B F S, StOk K B F H σ S ∧ RH (evsL g.Γ es S) (fun ds => ∀ F' H' vs, Grow F F' H H' → LRs K F' H' ds vs → (anyOwn es S = false → RpL K F' ds vs) → Q vs H') (ErW g E H)
/-- a display's items: all are kept -/
def tDs (K : PySem.W.Frag) (g : Gv) (E : XK) (es : Exs) : TA := fun σ H Q => ∃ B F S, StOk K B F H σ S ∧ RH (evs g.Γ es S) (fun ds => ∀ F' H' vs, Grow F F' H H' → RpL K F' ds vs → Q vs H') (ErW g E H)

theorem PE.weak {X : Cx} {e : Expr} {t t' : TE} (h : PE X e t) (w : ∀ σ H Q, t' σ H Q → t σ H Q) : PE X e t' := ⟨fun pins s σ H Q I q => h.run pins s σ H Q I (w σ H Q q)⟩
theorem PT.weak {X : Cx} {e : Expr} {t t' : TT} (h : PT X e t) (w : ∀ σ H Q, t' σ H Q → t σ H Q) : PT X e t' := ⟨fun pins s σ H Q I q => h.run pins s σ H Q I (w σ H Q q)⟩
theorem PW.weak {X : Cx} {e : Expr} {t t' : TT} (h : PW X e t) (w : ∀ σ H Q, t' σ H Q → t σ H Q) : PW X e t' := ⟨fun wh pins s σ H Q I q => h.run wh pins s σ H Q I (w σ H Q q)⟩
theorem PA.weak {X : Cx} {e : List Expr} {t t' : TA} (h : PA X e t) (w : ∀ σ H Q, t' σ H Q → t σ H Q) : PA X e t' := ⟨fun p pins s σ H Q I q => h.run p pins s σ H Q I (w σ H Q q)⟩
theorem PI.weak {X : Cx} {tg e : Expr} {t t' : TI} (h : PI X tg e t) (w : ∀ σ H Q, t' σ H Q → t σ H Q) : PI X tg e t' := ⟨fun pins s σ H Q I q => h.run pins s σ H Q I (w σ H Q q)⟩

/-- what a def of the text is worth -/
def spF (K : PySem.W.Frag) (g : Gv) (f : String) : Sp := fun vs H Q E => ∃ F ds, Same F H ∧ RpL K F ds vs ∧ RH (g.Γ f ds) (fun val => ∀ F' H' v, Grow F F' H H' → VR K F' H H' val v → Q v H') (ErW g E H)
structure FnAt (X : Cx) (g : Gv) (f : String) (n : Nat) : Prop where
  ex : ∃ (a : Addr) (fd : FuncData) (ps : List Str) (k : Nat) (dvs : List V) (ds : List Value) (sp : Sp), X.mg (Str.ofString f) = some (.ref a) ∧ PySem.W.keepIn X.K (.ref a) = true ∧ Room k X.A ∧ Binds X.K fd ps ds ∧ Vals dvs ds ∧
    FnOk X.prog X.w X.K X.mg X.base (L2.CX X.prog X.w) k a fd ps sp ∧ ∀ vs H Q E, vs.length = n → spF X.K g f vs H Q E → sp (vs ++ dvs) H Q E
/-- the instance at p, its fields so far -/
def OI (K : PySem.W.Frag) (F H : Hp) (p : Addr) (x : D) : Prop := match x with
  | .ins c ns xs => ∃ dx fsV vs, H p = some (.ins (He.ga K (Str.ofString c)) dx fsV) ∧ RpL K F xs vs ∧ ns.length = xs.length ∧ fsV.length ≤ ns.length ∧ ∀ n : Str, fsV.lookup n = ((ns.map Str.ofString).zip vs).lookup n
  | _ => False
def hid (p : Addr) (H : Hp) : Hp := fun a => if a = p then none else H a
/-- what an __init__ is worth -/
def spI (K : PySem.W.Frag) (g : Gv) (b : String) : Sp := fun vs H Q E => ∃ F p ws x ds, vs = .ref p :: ws ∧ OI K F H p x ∧ F p = none ∧ Same F H ∧ RpL K F ds ws ∧
  RH (g.Γ (b ++ ".__init__") (x :: ds)) (fun val => ∀ y F' H', val = .d y → Grow F F' (hid p H) (hid p H') → Same F' H' → OI K F' H' p y → Q .non H') fun _ _ => False
structure MkAt (X : Cx) (g : Gv) (c : String) (n : Nat) : Prop where
  ex : ∃ (f : Addr) (fd : FuncData) (ps : List Str) (k : Nat) (dvs : List V) (ds : List Value) (sp : Sp), L2.Mk X.K (He.ga X.K (Str.ofString c)) f ∧ X.mg (Str.ofString c) = some (.ref (He.ga X.K (Str.ofString c))) ∧ Room (k + 1) X.A ∧ Binds X.K fd ps ds ∧ Vals dvs ds ∧
    FnOk X.prog X.w X.K X.mg X.base (L2.CX X.prog X.w) k f fd ps sp ∧ ∀ vs H Q E, vs.length = n + 1 → spI X.K g c vs H Q E → sp (vs ++ dvs) H Q E
structure MetAt (X : Cx) (g : Gv) (c m : String) (n : Nat) : Prop where
  ex : ∃ (f : Addr) (fd : FuncData) (ps : List Str) (k : Nat) (dvs : List V) (ds : List Value) (sp : Sp), Cls X.K (He.ga X.K (Str.ofString c)) ∧ Meth X.K (He.ga X.K (Str.ofString c)) (Str.ofString m) f ∧ Room k X.A ∧ Binds X.K fd ps ds ∧ Vals dvs ds ∧
    FnOk X.prog X.w X.K X.mg X.base (L2.CX X.prog X.w) k f fd ps sp ∧ ∀ vs H Q E, vs.length = n + 1 → spF X.K g (c ++ "." ++ m) vs H Q E → sp (vs ++ dvs) H Q E
structure XOk (X : Cx) (c : Ck) (g : Gv) (E : XK) : Prop where
  n : X.N = c.N
  nd : X.N.Nodup
  sc : X.env.scope = c.sc
  calm : X.calm = true
  hu : X.A.units + 64 < cLine
  ts : ∀ x, L2.Loc c.ts x → L2.Loc X.env.scope x ∧ (X.fn x = true ∨ X.env.scope.names.lookup x = some .local)
  con : ∀ x v, c.G.lookup x = some v → ∃ u, X.mg x = some u ∧ (match v with | .int i => RelV (.int i) u | .str s => RelV (.str s) u)
  fr : ∀ x, c.fr.contains x = true → X.mg x = none
  fn : ∀ f n, c.fn.contains (f, n) = true → FnAt X g f n
  ps : Passes (L2.CX X.prog X.w) X E
  at_ : ∀ z n, c.at_.contains (z, n) = true → Cls X.K (He.ga X.K (Str.ofString z)) ∧ NoAttr X.K (He.ga X.K (Str.ofString z)) (Str.ofString n)
  me : ∀ z m n, c.me.contains (z, m, n) = true → MetAt X g z m n
  mks : ∀ z n, c.mks.contains (z, n) = true → MkAt X g z n
section
variable {X : Cx} {c : Ck} {g : Gv} {E : XK}
theorem vis_of {sc : Scope} {x : Str} (h : visB sc x = true) : Vis sc x := by
  unfold visB at h
  unfold Vis
  split at h <;> first | (rename_i e; simp [e]; done) | cases h
theorem loc_of {sc : Scope} {x : Str} (h : locB sc x = true) : L2.Loc sc x := by
  unfold locB at h
  unfold L2.Loc
  split at h <;> first | (rename_i e; simp [e]; done) | cases h
theorem glo_of (hx : XOk X c g E) {x : Str} (h : gloB c.sc x = true) : Gl X x ∧ (x == ("__debug__" : Str)) = false ∧ x ≠ "__name__" := by
  unfold gloB at h
  rw [Bool.and_eq_true, Bool.and_eq_true] at h
  obtain ⟨⟨h1, h2⟩, h3⟩ := h
  refine ⟨?_, by simpa using h2, fun z => ?_⟩
  · show X.env.scope.names.lookup x = _
    rw [hx.sc]
    exact of_decide_eq_true h1
  · rw [z] at h3
    simp at h3
theorem star_of {e : Expr} {es : List Expr} {env : Env} (h : isStar e = false) : starEach (e :: es) env = (false, eval e env) :: starEach es env := by
  cases e <;> first | rfl | (exact absurd (show true = false from h) (by decide))
theorem plain_back {e : Expr} {pos : Pos} : ∀ {es : List Expr} {env : Env}, (es.all fun e => !isStar e) = true → (backTo pos (starEach es env)).any (·.1) = false
  | [], _, _ => rfl
  | e :: es, env, h => by
    rw [List.all_cons, Bool.and_eq_true] at h
    have h1 : isStar e = false := by simpa using h.1
    have ih := plain_back (e := e) (pos := pos) (env := env) h.2
    rw [star_of h1]
    show (backTo pos ((false, eval e env) :: starEach es env)).any (·.1) = false
    simpa [backTo] using ih
theorem embs_stars {c : Ck} : ∀ {es : Exs} {l : List Expr}, embs c es l = true → (l.all fun e => !isStar e) = true
  | .nil, l, h => by
    cases l with
    | nil => rfl
    | cons _ _ => exact absurd (show false = true from h) Bool.false_ne_true
  | .cons e r, l, h => by
    cases l with
    | nil => exact absurd (show false = true from h) Bool.false_ne_true
    | cons x l =>
      rw [embs] at h
      simp only [Bool.and_eq_true] at h
      rw [List.all_cons, h.2.1, embs_stars h.2.2]
      rfl

theorem ok_ne {α : Type} {a : α} {c : String} {fs : List D} : (R.ok a : R α) ≠ .er c fs := fun z => nomatch z
theorem bad_ne {α : Type} {c : String} {fs : List D} : (R.bad : R α) ≠ .er c fs := fun z => nomatch z
theorem ite_er {α : Type} {p : Prop} [Decidable p] {r : R α} {c : String} {fs : List D} (h : r ≠ .er c fs) : (if p then r else .bad) ≠ .er c fs := by
  by_cases hp : p
  · rw [if_pos hp]; exact h
  · rw [if_neg hp]; exact bad_ne
theorem mat_er {α β : Type} {o : Option α} {f : α → R β} {c : String} {fs : List D} (h : ∀ a, f a ≠ .er c fs) : optR o f ≠ .er c fs := by
  cases o with
  | some x => exact h x
  | none => exact bad_ne
theorem truth_er (d : D) (c : String) (fs : List D) : d.truth ≠ .er c fs := by
  cases d <;> first | exact ok_ne | exact bad_ne | exact ite_er ok_ne
theorem binD_er (o : BOp) (a b : D) (c : String) (fs : List D) : binD o a b ≠ .er c fs := by
  cases o <;> cases a <;> cases b <;> first | exact ok_ne | exact bad_ne | exact ite_er ok_ne
theorem eqD_er (a b : D) (c : String) (fs : List D) : eqD a b ≠ .er c fs := by
  cases a <;> cases b <;> first | exact ok_ne | exact bad_ne | exact ite_er ok_ne
theorem ltTup_er (a b : List D) (c : String) (fs : List D) : ltTup a b ≠ .er c fs := by
  unfold ltTup
  split
  · exact ok_ne
  · exact bad_ne
theorem cmpD_er (o : COp) (a b : D) (c : String) (fs : List D) : cmpD o a b ≠ .er c fs := by
  cases o with
  | eq => exact eqD_er a b c fs
  | ne =>
    show (eqD a b >>= fun c => pure (!c)) ≠ _
    cases h : eqD a b with
    | ok k => exact ok_ne
    | er c' fs' => exact absurd h (eqD_er a b c' fs')
    | bad => exact bad_ne
  | lt => cases a <;> cases b <;> first | exact ok_ne | exact bad_ne | exact ltTup_er _ _ c fs
  | _ => cases a <;> cases b <;> first | exact ok_ne | exact bad_ne | exact ite_er ok_ne
theorem subD_er (a b : D) (c : String) (fs : List D) : subD a b ≠ .er c fs := by
  cases a <;> cases b <;> first | exact bad_ne | exact mat_er (fun _ => ok_ne) | exact ite_er (mat_er (fun _ => ok_ne))
theorem slcD_er (a : D) (lo hi : Option Int) (c : String) (fs : List D) : slcD a lo hi ≠ .er c fs := by
  cases a with
  | lst xs => exact ok_ne
  | scr ns => exact ok_ne
  | str s => exact ite_er ok_ne
  | tup xs =>
    show (if _ then R.bad else R.ok _) ≠ _
    split
    · exact bad_ne
    · exact ok_ne
  | _ => exact bad_ne
theorem isaD_er (a : D) (t : String) (c : String) (fs : List D) : isaD a t ≠ .er c fs := by
  unfold isaD
  split
  · exact ite_er ok_ne
  · exact bad_ne
theorem biD_er (b : Bi) (ds : List D) (c : String) (fs : List D) : biD b ds ≠ .er c fs := by
  match ds with
  | [] => cases b <;> exact bad_ne
  | [x] => cases b <;> cases x <;> first | exact ok_ne | exact bad_ne | exact ite_er ok_ne | exact mat_er (fun _ => ok_ne) | exact ite_er (mat_er (fun _ => ok_ne))
  | [x, y] => cases b <;> cases x <;> first | exact bad_ne | (cases y <;> first | exact ok_ne | exact bad_ne | exact ite_er ok_ne)
  | x :: y :: w :: ds => cases b <;> cases x <;> first | exact bad_ne | (cases y <;> exact bad_ne)
theorem int_er (d : D) (c : String) (fs : List D) : d.int? ≠ .er c fs := by cases d <;> first | exact ok_ne | exact bad_ne
theorem rng_er (i j : Int) (c : String) (fs : List D) : rngD i j ≠ .er c fs := ok_ne
/-- a step that never raises has come to an end -/
theorem RH.got {α : Type} {r : R α} {ok : α → Prop} {er : String → List D → Prop} (h : RH r ok er) (n : ∀ c fs, r ≠ .er c fs) : ∃ a, r = .ok a ∧ ok a := by
  cases r with
  | ok a => exact ⟨a, rfl, h⟩
  | er c fs => exact absurd rfl (n c fs)
  | bad => exact h.elim

/-- behind a look -/
theorem tL_then {K : PySem.W.Frag} {x : Ex} {B F H : Hp} {σ : Sx} {S : Sg} {Q : VK} {α : Type} {f : D → R α} {ok : α → Prop} (s : StOk K B F H σ S) (h : RH (evL g.Γ x S >>= f) ok (ErW g E H))
    (k : ∀ d F1 H1 v, StOk K B F1 H1 σ S → Grow F F1 H H1 → LR K F1 H1 d v → RH (f d) ok (ErW g E H1) → Q v H1) : tL K g E x σ H Q := by
  refine ⟨B, F, S, s, RH.imp (RH.bind h) (fun d _ q F1 H1 v gr l => ?_) fun _ _ z => z⟩
  exact k d F1 H1 v (s.grow gr) gr l (RH.imp q (fun _ _ z => z) fun _ _ z => ErW.same gr.h z)
theorem tT_then {K : PySem.W.Frag} {x : Ex} {B F H : Hp} {σ : Sx} {S : Sg} {Q : Bool → Hp → Prop} {α : Type} {f : Bool → R α} {ok : α → Prop} (s : StOk K B F H σ S) (h : RH (evT g.Γ x S >>= f) ok (ErW g E H))
    (k : ∀ d F1 H1, StOk K B F1 H1 σ S → Grow F F1 H H1 → RH (f d) ok (ErW g E H1) → Q d H1) : tT K g E x σ H Q := by
  refine ⟨B, F, S, s, RH.imp (RH.bind h) (fun d _ q F1 H1 gr => ?_) fun _ _ z => z⟩
  exact k d F1 H1 (s.grow gr) gr (RH.imp q (fun _ _ z => z) fun _ _ z => ErW.same gr.h z)
/-- a name -/
theorem pe_look {i : Nat} {e : Expr} (hx : XOk X c g E) (h : emb c (.var i) e = true) : PE X e (tL X.K g E (.var i)) := by
  cases e with
  | Name x pos =>
    rw [emb] at h
    simp only [Bool.and_eq_true, Bool.not_eq_true', decide_eq_true_eq] at h
    obtain ⟨h1, h2, h3, h4⟩ := h
    refine PE.weak (pe_var (i := i) (by rw [hx.n]; exact h1) (by rw [hx.sc]; exact vis_of h2) h3 h4) fun σ H Q q => ?_
    obtain ⟨B, F, S, s, q⟩ := q
    have q : RH (S.look i) (fun d => ∀ F' H' v, Grow F F' H H' → LR X.K F' H' d v → Q v H') (ErW g E H) := q
    unfold Sg.look at q
    split at q
    · rename_i x e
      obtain ⟨v, e1, r⟩ := s.fz i _ e
      exact ⟨v, e1, q F H v (Grow.refl s.fh) (LR.of s.fh r)⟩
    · rename_i xs e
      obtain ⟨p, vs, e1, hp, _, _, r⟩ := s.own i _ e
      exact ⟨.ref p, e1, q F H _ (Grow.refl s.fh) ⟨p, vs, rfl, hp, r⟩⟩
    · exact q.elim
  | _ => exact absurd (show false = true from h) Bool.false_ne_true
/-- from a value to a look -/
theorem pe_lk {x : Ex} {e : Expr} (hx : XOk X c g E) (h : emb c x e = true) (p : PE X e (tV X.K g E x)) : PE X e (tL X.K g E x) := by
  cases x with
  | var i => exact pe_look hx h
  | _ =>
    refine PE.weak p fun σ H Q q => ?_
    obtain ⟨B, F, S, s, q⟩ := q
    refine ⟨B, F, S, s, ?_⟩
    have q := RH.bind (f := fun x : Val => (pure x.D : R D)) q
    exact RH.imp q (fun val _ q F' H' v gr r => q F' H' v gr (r.look gr.fh)) fun _ _ z => z
/-- a look's truth -/
theorem pt_lk {x : Ex} {e : Expr} (p : PE X e (tL X.K g E x)) (he : ∀ whole, isTrue e X.env whole = (do let v ← whole; standAt e.pos; holding [v] (truthy v))) : PT X e (tT X.K g E x) := by
  refine PT.weak (pt_truth p he) fun σ H Q q => ?_
  obtain ⟨B, F, S, s, q⟩ := q
  refine tL_then (f := fun x => x.truth) s q fun d F1 H1 v s1 gr l q => ?_
  cases e1 : d.truth with
  | ok k =>
    rw [e1] at q
    exact ⟨k, truth_ok gr.fh l e1, q F1 H1 gr⟩
  | er cc fs => exact absurd e1 (truth_er d cc fs)
  | bad => rw [e1] at q; exact q.elim
end
end Fv
end
section
set_option maxHeartbeats 1000000
namespace Fv
open PySem PySem.Spec PyProof.Rows L2

section
variable {K : PySem.W.Frag} {B F H : Hp} {σ : Sx} {S : Sg}
/-- an object that no slot's own list is has changed -/
theorem StOk.other {p : Addr} {o : HO} (s : StOk K B F H σ S) (fp : F p = none) (bp : B p = none) (no : ∀ (i : Nat) (xs : List D) (q : Addr), S[i]? = some (.own xs) → σ[i]? = some (some (.ref q)) → q ≠ p) : StOk K B F (upd H p o) σ S where
  bh := same_upd2 s.bh bp
  fh := same_upd2 s.fh fp
  len := s.len
  fz := s.fz
  own := fun i xs h => by
    obtain ⟨q, vs, e, hq, fq, bq, r⟩ := s.own i xs h
    exact ⟨q, vs, e, by rw [upd_ne (no i xs q h e)]; exact hq, fq, bq, r⟩
  ap := s.ap
theorem wipe_get (σ : Sx) (i : Nat) : ∀ vs : List Nat, (wipe σ vs)[i]? = if i ∈ vs then (if i < σ.length then some none else none) else σ[i]?
  | [] => by rw [if_neg (fun z => nomatch z)]; rfl
  | v :: vs => by
    unfold wipe
    by_cases hi : v = i
    · subst hi
      rw [if_pos (List.mem_cons_self ..)]
      by_cases hl : v < σ.length
      · rw [if_pos hl, List.getElem?_set_self (by rw [wipe_length]; exact hl)]
      · rw [if_neg hl, List.getElem?_eq_none (by rw [List.length_set, wipe_length]; omega)]
    · rw [List.getElem?_set_ne hi, wipe_get σ i vs]
      by_cases hm : i ∈ vs
      · rw [if_pos hm, if_pos (List.mem_cons_of_mem _ hm)]
      · rw [if_neg hm, if_neg (fun z => (List.mem_cons.mp z).elim (fun q => hi q.symm) hm)]
theorem wipeS_len (S : Sg) : ∀ vs : List Nat, (wipeS S vs).length = S.length
  | [] => rfl
  | v :: vs => by unfold wipeS; rw [List.length_set, wipeS_len S vs]
theorem wipeS_get (S : Sg) (i : Nat) : ∀ vs : List Nat, (wipeS S vs)[i]? = if i ∈ vs then (if i < S.length then some .no else none) else S[i]?
  | [] => by rw [if_neg (fun z => nomatch z)]; rfl
  | v :: vs => by
    unfold wipeS
    by_cases hi : v = i
    · subst hi
      rw [if_pos (List.mem_cons_self ..)]
      by_cases hl : v < S.length
      · rw [if_pos hl, List.getElem?_set_self (by rw [wipeS_len]; exact hl)]
      · rw [if_neg hl, List.getElem?_eq_none (by rw [List.length_set, wipeS_len]; omega)]
    · rw [List.getElem?_set_ne hi, wipeS_get S i vs]
      by_cases hm : i ∈ vs
      · rw [if_pos hm, if_pos (List.mem_cons_of_mem _ hm)]
      · rw [if_neg hm, if_neg (fun z => (List.mem_cons.mp z).elim (fun q => hi q.symm) hm)]
theorem wipeS_some {S : Sg} {i : Nat} {vs : List Nat} {x : Sl} (h : (wipeS S vs)[i]? = some x) (n : x ≠ .no) : i ∉ vs ∧ S[i]? = some x := by
  rw [wipeS_get] at h
  by_cases hm : i ∈ vs
  · rw [if_pos hm] at h
    split at h
    · exact absurd (Option.some.inj h).symm n
    · cases h
  · rw [if_neg hm] at h
    exact ⟨hm, h⟩
theorem StOk.wiped (s : StOk K B F H σ S) (vs : List Nat) : StOk K B F H (wipe σ vs) (wipeS S vs) where
  bh := s.bh
  fh := s.fh
  len := by rw [wipe_length, wipeS_len]; exact s.len
  fz := fun i x h => by
    obtain ⟨n, h⟩ := wipeS_some h (fun z => nomatch z)
    obtain ⟨v, e, r⟩ := s.fz i x h
    exact ⟨v, by rw [wipe_get, if_neg n]; exact e, r⟩
  own := fun i xs h => by
    obtain ⟨n, h⟩ := wipeS_some h (fun z => nomatch z)
    obtain ⟨p, vs, e, r⟩ := s.own i xs h
    exact ⟨p, vs, by rw [wipe_get, if_neg n]; exact e, r⟩
  ap := fun i j xs ys p hij h1 h2 e1 e2 => by
    obtain ⟨n1, h1⟩ := wipeS_some h1 (fun z => nomatch z)
    obtain ⟨n2, h2⟩ := wipeS_some h2 (fun z => nomatch z)
    rw [wipe_get, if_neg n1] at e1
    rw [wipe_get, if_neg n2] at e2
    exact s.ap i j xs ys p hij h1 h2 e1 e2
theorem wipe_set {σ : Sx} {vs : List Nat} {i : Nat} {v : Option V} (h : i ∈ vs) : wipe (σ.set i v) vs = wipe σ vs := by
  refine List.ext_getElem? fun j => ?_
  rw [wipe_get, wipe_get, List.length_set]
  by_cases hj : j ∈ vs
  · rw [if_pos hj, if_pos hj]
  · rw [if_neg hj, if_neg hj, List.getElem?_set_ne (fun z => by subst z; exact hj h)]
theorem wipe_wipe {σ : Sx} {vs : List Nat} : wipe (wipe σ vs) vs = wipe σ vs := by
  refine List.ext_getElem? fun j => ?_
  rw [wipe_get, wipe_length, wipe_get]
  by_cases hj : j ∈ vs
  · rw [if_pos hj, if_pos hj]
  · rw [if_neg hj, if_neg hj]
end

/-- only the target's slots change -/
def tgSlots : Tg → List Nat
  | .one i => [i]
  | .tup is => is
def tG (K : PySem.W.Frag) (tg : Tg) : TG := fun v σ H Q => ∃ B F S d S', StOk K B F H σ S ∧ Rp K F d v ∧ tg.set d S = .ok S' ∧ ∀ σ', StOk K B F H σ' S' → (∀ vs, (∀ i ∈ tgSlots tg, i ∈ vs) → wipe σ' vs = wipe σ vs) → Q σ' H
section
variable {X : Cx} {c : Ck} {g : Gv} {E : XK}
def gNames : List Nat → TGs
  | [] => gNil
  | i :: is => gCons (gName i) (gNames is)
theorem pgs_names (hx : XOk X c g E) : ∀ (is : List Nat) (es : List Expr), es.length = is.length → ((is.zip es).all fun p => match p.2 with
      | .Name x _ => decide (c.N[p.1]? = some x) && locB c.ts x
      | _ => false) = true → PGs X es (gNames is) ∧ (assignEach es X.env).length = is.length ∧ (assignEach es X.env).findIdx? (·.1) = none
  | [], [], _, _ => ⟨pgs_nil, rfl, rfl⟩
  | [], _ :: _, h, _ => by cases h
  | _ :: _, [], h, _ => by cases h
  | i :: is, e :: es, hl, h => by
    rw [List.zip_cons_cons, List.all_cons, Bool.and_eq_true] at h
    obtain ⟨p1, p2, p3⟩ := pgs_names hx is es (by simpa using hl) h.2
    cases e with
    | Name x pos =>
      have h1 := h.1
      simp only [Bool.and_eq_true, decide_eq_true_eq] at h1
      obtain ⟨k1, k2⟩ := hx.ts x (loc_of h1.2)
      refine ⟨pgs_cons (pg_name hx.nd (by rw [hx.n]; exact h1.1) k1 k2) p1 rfl, ?_, ?_⟩
      · show ((false, assign (.Name x pos) X.env) :: assignEach es X.env).length = _
        rw [List.length_cons, p2, List.length_cons]
      · show ((false, assign (.Name x pos) X.env) :: assignEach es X.env).findIdx? (·.1) = none
        rw [List.findIdx?_cons, if_neg Bool.false_ne_true, p3]
        rfl
    | _ => exact absurd (show false = true from h.1) Bool.false_ne_true
theorem setAll_ok {K : PySem.W.Frag} {B F H : Hp} {Q : Sx → Hp → Prop} : ∀ (is : List Nat) (xs : List D) (vs : List V) (σ : Sx) (S S' : Sg), StOk K B F H σ S → RpL K F xs vs → setAll is xs S = .ok S' →
    (∀ σ', StOk K B F H σ' S' → (∀ ws, (∀ i ∈ is, i ∈ ws) → wipe σ' ws = wipe σ ws) → Q σ' H) → gNames is vs σ H Q
  | [], [], vs, σ, S, S', s, r, e, q => by
    rw [RpL] at r
    have e : R.ok S = .ok S' := e
    cases e
    exact ⟨r, q σ s fun _ _ => rfl⟩
  | [], _ :: _, _, _, _, _, _, _, e, _ => by cases e
  | _ :: _, [], _, _, _, _, _, _, e, _ => by cases e
  | i :: is, x :: xs, vs, σ, S, S', s, r, e, q => by
    rw [RpL] at r
    obtain ⟨v, r', rfl, h1, h2⟩ := r
    refine ⟨v, r', rfl, ?_⟩
    refine setAll_ok is xs r' (σ.set i (some v)) (S.set i (.fz x)) S' (StOk.set (val := .d x) (H1 := H) s (Grow.refl s.fh) h1) h2 e fun σ' s' w => ?_
    refine q σ' s' fun ws hw => ?_
    rw [w ws (fun j hj => hw j (List.mem_cons_of_mem _ hj)), wipe_set (hw i (List.mem_cons_self ..))]
theorem setAll_len : ∀ (is : List Nat) (xs : List D) (S S' : Sg), setAll is xs S = .ok S' → xs.length = is.length
  | [], [], _, _, _ => rfl
  | [], _ :: _, _, _, h => by cases h
  | _ :: _, [], _, _, h => by cases h
  | i :: is, x :: xs, S, S', h => by rw [List.length_cons, List.length_cons, setAll_len is xs _ _ h]
theorem pg_tg (hx : XOk X c g E) {tg : Tg} {e : Expr} (h : embT c tg e = true) : PG X e (tG X.K tg) := by
  cases tg with
  | one i =>
    cases e with
    | Name x pos =>
      rw [embT] at h
      simp only [Bool.and_eq_true, decide_eq_true_eq] at h
      obtain ⟨k1, k2⟩ := hx.ts x (loc_of h.2)
      have p := pg_name (X := X) (pos := pos) hx.nd (i := i) (by rw [hx.n]; exact h.1) k1 k2
      refine ⟨fun pins s σ H v u Q I r q => p.run pins s σ H v u Q I r ?_⟩
      obtain ⟨B, F, S, d, S', st, rd, es, q⟩ := q
      have es : R.ok (S.set i (.fz d)) = .ok S' := es
      cases es
      exact q _ (StOk.set (val := .d d) (H1 := H) st (Grow.refl st.fh) rd) fun vs hv => wipe_set (hv i (List.mem_singleton.mpr rfl))
    | _ => exact absurd (show false = true from h) Bool.false_ne_true
  | tup is =>
    cases e with
    | Tuple es k pos =>
      rw [embT, Bool.and_eq_true, decide_eq_true_eq] at h
      obtain ⟨p1, p2, p3⟩ := pgs_names hx is es h.1 h.2
      have p := pg_tup (X := X) (pos := pos) (k := k) hx.calm p1 p2 p3
      have p5 := pg_unl (X := X) (pos := pos) (k := k) hx.calm p1 p2 p3
      refine ⟨fun pins s σ H v u Q I r q => ?_⟩
      obtain ⟨B, F, S, d, S', st, rd, es', q⟩ := q
      cases d with
      | tup xs =>
        rw [Rp] at rd
        obtain ⟨a, vs, rfl, e2, e3⟩ := rd
        have es' : setAll is xs S = .ok S' := es'
        refine p.run pins s σ H _ u Q I r ⟨a, vs, rfl, SqT.of (st.fh _ _ e2), ?_, setAll_ok is xs vs σ S S' st e3 es' q⟩
        rw [← e3.len]
        have key : ∀ (is : List Nat) (xs : List D) (S S' : Sg), setAll is xs S = .ok S' → xs.length = is.length := by
          intro is
          induction is with
          | nil => intro xs S S' h; cases xs with
            | nil => rfl
            | cons _ _ => cases h
          | cons i is ih => intro xs S S' h; cases xs with
            | nil => cases h
            | cons x xs => rw [List.length_cons, List.length_cons, ih xs _ _ h]
        exact key is xs S S' es'
      | lst xs =>
        rw [Rp] at rd
        obtain ⟨a, vs, rfl, e2, e3⟩ := rd
        have es' : setAll is xs S = .ok S' := es'
        refine p5.run pins s σ H _ u Q I r ⟨a, vs, rfl, SqL.of (st.fh _ _ e2), ?_, setAll_ok is xs vs σ S S' st e3 es' q⟩
        rw [← e3.len]
        exact setAll_len is xs S S' es'
      | _ => cases es'
    | _ => exact absurd (show false = true from h) Bool.false_ne_true
theorem FnAt.blk {f : String} {n : Nat} (h : FnAt X g f n) (s : Shared) (H : Hp) (scope : Scope) (cenv : Env) (fp : List Addr) : FnAt (X.blk s H scope cenv fp) g f n := ⟨h.ex⟩
theorem MetAt.blk {z m : String} {n : Nat} (h : MetAt X g z m n) (s : Shared) (H : Hp) (scope : Scope) (cenv : Env) (fp : List Addr) : MetAt (X.blk s H scope cenv fp) g z m n := ⟨h.ex⟩
theorem MkAt.blk {z : String} {n : Nat} (h : MkAt X g z n) (s : Shared) (H : Hp) (scope : Scope) (cenv : Env) (fp : List Addr) : MkAt (X.blk s H scope cenv fp) g z n := ⟨h.ex⟩
theorem XOk.blk (hx : XOk X c g E) {scope : Scope} {own : List (Str × Nat)} (ok : BlkOk X.N X.env.scope scope own) (s : Shared) (H : Hp) (C : Addr) (cl : List (Str × Addr)) (fp : List Addr) :
    XOk (X.blk s H scope (compEnvC scope cl C X.env) fp) { c with sc := relS scope c.sc, ts := scope } g E0 where
  n := hx.n
  nd := hx.nd
  sc := by
    show relabel scope X.env = relS scope c.sc
    rw [← hx.sc]
    rfl
  calm := hx.calm
  hu := hx.hu
  ts := fun x h => by
    have key : ∀ k, k ≠ NameKind.free → scope.names.lookup x = some k → (relabel scope X.env).names.lookup x = some k := fun k hk h => lookup_relS_keep (sc := X.env.scope) hk h
    rcases h with h | h
    · exact ⟨.inl (key _ (by decide) h), .inr (key _ (by decide) h)⟩
    · refine ⟨.inr (key _ (by decide) h), .inl ?_⟩
      show (scope.names.lookup x == some .cell) = true
      rw [h]
      rfl
  con := hx.con
  fr := hx.fr
  fn := fun f n h => (hx.fn f n h).blk s H scope _ fp
  ps := passL
  at_ := hx.at_
  me := fun z m n h => (hx.me z m n h).blk s H scope _ fp
  mks := fun z n h => (hx.mks z n h).blk s H scope _ fp
end

structure Walks (K : PySem.W.Frag) (J : L2.It) (F : Hp) (xs : List D) : Prop where
  go : ∀ i H', Same F H' → i < xs.length → J.go i H'
  stop : ∀ i H', Same F H' → xs.length ≤ i → J.stop i H'
  yld : ∀ (i : Nat) F1 H1 x H2, Same F F1 → Same F1 H1 → i < xs.length → J.yld i H1 x H2 → ∃ F2 d, Grow F1 F2 H1 H2 ∧ xs[i]? = some d ∧ Rp K F2 d x
def tI (K : PySem.W.Frag) (g : Gv) (E : XK) (it : It) : TI := fun σ H R => ∃ B F S, StOk K B F H σ S ∧ RH (evI g.Γ it S) (fun xs => ∀ J F' H', Grow F F' H H' → Walks K J F' xs → R J H') (ErW g E H)
section
variable {K : PySem.W.Frag} {F : Hp}
theorem walks_list {a : Addr} {xs : List D} {vs : List V} (h : F a = some (.lst vs)) (r : RpL K F xs vs) : Walks K (Itl K a) F xs where
  go := fun i H' s hi => by
    obtain ⟨v, e, _⟩ := r.get (List.getElem?_eq_getElem hi)
    exact ⟨vs, v, SqL.of (s _ _ h), e⟩
  stop := fun i H' s hi => ⟨vs, SqL.of (s _ _ h), by rw [← r.len]; exact hi⟩
  yld := fun i F1 H1 x H2 s1 s2 hi y => by
    obtain ⟨rfl, y⟩ := y
    obtain ⟨v, e, rv⟩ := r.get (List.getElem?_eq_getElem hi)
    have e2 := y vs (SqL.of (s2 _ _ (s1 _ _ h)))
    rw [e] at e2
    cases e2
    exact ⟨F1, xs[i], Grow.refl s2, List.getElem?_eq_getElem hi, Rp.mono s1 _ _ rv⟩
theorem walks_tup {a : Addr} {xs : List D} {vs : List V} (h : F a = some (.tup vs)) (r : RpL K F xs vs) : Walks K (Itt K a) F xs where
  go := fun i H' s hi => by
    obtain ⟨v, e, _⟩ := r.get (List.getElem?_eq_getElem hi)
    exact ⟨vs, v, SqT.of (s _ _ h), e⟩
  stop := fun i H' s hi => ⟨vs, SqT.of (s _ _ h), by rw [← r.len]; exact hi⟩
  yld := fun i F1 H1 x H2 s1 s2 hi y => by
    obtain ⟨rfl, y⟩ := y
    obtain ⟨v, e, rv⟩ := r.get (List.getElem?_eq_getElem hi)
    have e2 := y vs (SqT.of (s2 _ _ (s1 _ _ h)))
    rw [e] at e2
    cases e2
    exact ⟨F1, xs[i], Grow.refl s2, List.getElem?_eq_getElem hi, Rp.mono s1 _ _ rv⟩
theorem walks_scr {a : Addr} {ns : List Int} (h : SqL K F a (ns.map V.int)) : Walks K (Itl K a) F (ns.map D.int) where
  go := fun i H' s hi => by
    rw [List.length_map] at hi
    exact ⟨_, _, s.seq h, by rw [List.getElem?_map, List.getElem?_eq_getElem hi]; rfl⟩
  stop := fun i H' s hi => ⟨_, s.seq h, by rw [List.length_map] at hi ⊢; exact hi⟩
  yld := fun i F1 H1 x H2 s1 s2 hi y => by
    obtain ⟨rfl, y⟩ := y
    rw [List.length_map] at hi
    have e2 := y _ (s2.seq (s1.seq h))
    rw [List.getElem?_map, List.getElem?_eq_getElem hi] at e2
    cases e2
    exact ⟨F1, .int ns[i], Grow.refl s2, by rw [List.getElem?_map, List.getElem?_eq_getElem hi]; rfl, rp_int⟩
theorem numD_len : ∀ (i : Nat) (xs : List D), (numD i xs).length = xs.length
  | _, [] => rfl
  | i, x :: r => congrArg Nat.succ (numD_len (i + 1) r)
theorem numD_get : ∀ (xs : List D) (j i : Nat), (numD j xs)[i]? = (xs[i]?).map fun x => .tup [.int ((j + i : Nat) : Int), x]
  | [], _, _ => rfl
  | x :: r, j, 0 => rfl
  | x :: r, j, i + 1 => by
    show (numD (j + 1) r)[i]? = _
    rw [numD_get r (j + 1) i, List.getElem?_cons_succ]
    have e : j + 1 + i = j + (i + 1) := by omega
    rw [e]
theorem walks_enum {a : Addr} {xs : List D} {vs : List V} (h : F a = some (.lst vs)) (r : RpL K F xs vs) : Walks K (Ite K a) F (numD 0 xs) where
  go := fun i H' s hi => by
    rw [numD_len] at hi
    obtain ⟨v, e, _⟩ := r.get (List.getElem?_eq_getElem hi)
    exact ⟨vs, v, SqL.of (s _ _ h), e⟩
  stop := fun i H' s hi => ⟨vs, SqL.of (s _ _ h), by rw [numD_len] at hi; rw [← r.len]; exact hi⟩
  yld := fun i F1 H1 x H2 s1 s2 hi y => by
    obtain ⟨T, w, rfl, hT, rfl, y⟩ := y
    rw [numD_len] at hi
    obtain ⟨v, e, rv⟩ := r.get (List.getElem?_eq_getElem hi)
    have e2 := y vs (SqL.of (s2 _ _ (s1 _ _ h)))
    rw [e] at e2
    cases e2
    refine ⟨upd F1 T (.tup [.int (i : Nat), w]), .tup [.int ((0 + i : Nat) : Int), xs[i]], Grow.newF s2 hT, by rw [numD_get, List.getElem?_eq_getElem hi]; rfl, ?_⟩
    rw [Nat.zero_add]
    exact rp_tup upd_same (RpL.cons rp_int (RpL.cons (Rp.mono (s1.trans (same_upd (s2.free hT))) _ _ rv) RpL.nil))
theorem walks_str (s : Tx) : Walks K (Its ⟨s.toArray⟩) F (s.map fun c => D.str [c]) where
  go := fun i H' _ hi => by
    rw [List.length_map] at hi
    show i < s.toArray.size
    simpa using hi
  stop := fun i H' _ hi => by
    rw [List.length_map] at hi
    show s.toArray.size ≤ i
    simpa using hi
  yld := fun i F1 H1 x H2 s1 s2 hi y => by
    obtain ⟨rfl, c, e, rfl⟩ := y
    refine ⟨F1, .str [c], Grow.refl s2, ?_, rp_str⟩
    rw [List.getElem?_map]
    have e : s[i]? = some c := by simpa using e
    rw [e]
    rfl
theorem walks_rng (lo : Int) (n : Nat) : Walks K (Itr lo n) F ((List.range n).map fun k => D.int (lo + (k : Nat))) where
  go := fun i H' _ hi => by
    rw [List.length_map, List.length_range] at hi
    exact hi
  stop := fun i H' _ hi => by
    rw [List.length_map, List.length_range] at hi
    exact hi
  yld := fun i F1 H1 x H2 s1 s2 hi y => by
    obtain ⟨rfl, rfl⟩ := y
    rw [List.length_map, List.length_range] at hi
    refine ⟨F1, .int (lo + (i : Nat)), Grow.refl s2, ?_, rp_int⟩
    rw [List.getElem?_map, List.getElem?_range hi]
    rfl
theorem walks_rngC (lo c : Int) (n : Nat) : Walks K (Itc lo c n) F ((List.range n).map fun k => D.int (lo + (k : Nat) * c)) where
  go := fun i H' _ hi => by
    rw [List.length_map, List.length_range] at hi
    exact hi
  stop := fun i H' _ hi => by
    rw [List.length_map, List.length_range] at hi
    exact hi
  yld := fun i F1 H1 x H2 s1 s2 hi y => by
    obtain ⟨rfl, rfl⟩ := y
    rw [List.length_map, List.length_range] at hi
    refine ⟨F1, .int (lo + (i : Nat) * c), Grow.refl s2, ?_, rp_int⟩
    rw [List.getElem?_map, List.getElem?_range hi]
    rfl
theorem walks_rev {a : Addr} {xs : List D} {vs : List V} (h : F a = some (.lst vs)) (r : RpL K F xs vs) : Walks K (Itv K a vs.length) F xs.reverse where
  go := fun i H' s hi => by
    rw [List.length_reverse] at hi
    have hl := r.len
    obtain ⟨v, e, _⟩ := r.get (i := xs.length - 1 - i) (List.getElem?_eq_getElem (by omega))
    exact ⟨by omega, vs, v, SqL.of (s _ _ h), by rw [← hl]; exact e⟩
  stop := fun i H' s hi => by
    rw [List.length_reverse, r.len] at hi
    exact hi
  yld := fun i F1 H1 x H2 s1 s2 hi y => by
    obtain ⟨rfl, y⟩ := y
    rw [List.length_reverse] at hi
    have hl := r.len
    have hj : xs.length - 1 - i < xs.length := by omega
    obtain ⟨v, e, rv⟩ := r.get (List.getElem?_eq_getElem hj)
    have e2 := y vs (SqL.of (s2 _ _ (s1 _ _ h)))
    rw [← hl, e] at e2
    cases e2
    refine ⟨F1, xs[xs.length - 1 - i], Grow.refl s2, ?_, Rp.mono s1 _ _ rv⟩
    rw [List.getElem?_reverse hi, List.getElem?_eq_getElem hj]
theorem walks_revT {a : Addr} {xs : List D} {vs : List V} (h : F a = some (.tup vs)) (r : RpL K F xs vs) : Walks K (RT.ItvT K a vs.length) F xs.reverse where
  go := fun i H' s hi => by
    rw [List.length_reverse] at hi
    have hl := r.len
    obtain ⟨v, e, _⟩ := r.get (i := xs.length - 1 - i) (List.getElem?_eq_getElem (by omega))
    exact ⟨by omega, vs, v, SqT.of (s _ _ h), by rw [← hl]; exact e⟩
  stop := fun i H' s hi => by
    rw [List.length_reverse, r.len] at hi
    exact hi
  yld := fun i F1 H1 x H2 s1 s2 hi y => by
    obtain ⟨rfl, y⟩ := y
    rw [List.length_reverse] at hi
    have hl := r.len
    have hj : xs.length - 1 - i < xs.length := by omega
    obtain ⟨v, e, rv⟩ := r.get (List.getElem?_eq_getElem hj)
    have e2 := y vs (SqT.of (s2 _ _ (s1 _ _ h)))
    rw [← hl, e] at e2
    cases e2
    refine ⟨F1, xs[xs.length - 1 - i], Grow.refl s2, ?_, Rp.mono s1 _ _ rv⟩
    rw [List.getElem?_reverse hi, List.getElem?_eq_getElem hj]
end
end Fv
end
section
set_option maxHeartbeats 2000000
namespace Fv
open PySem PySem.Spec PyProof.Rows L2
theorem bandE {a b : Bool} (h : (a && b) = true) : a = true ∧ b = true := Bool.and_eq_true_iff.mp h
theorem notE {a : Bool} (h : (!a) = true) : a = false := by simpa using h
theorem noF {p : Prop} (h : false = true) : p := absurd h Bool.false_ne_true
section
variable {X : Cx} {c : Ck} {g : Gv} {E : XK}
theorem noset {e : Expr} {env : Env} (h : (match e with | .Set _ _ _ => false | _ => true) = true) : ∀ x, foldedSetIterable e env x = pure x := by
  intro x
  cases e <;> first | rfl | exact noF h
/-- a value's reading, behind two looks -/
theorem tV_bin {K : PySem.W.Frag} {a b : Ex} {B F H : Hp} {σ : Sx} {S : Sg} {Q : VK} {r : R2} {f : D → D → R Val} (s : StOk K B F H σ S)
    (h : RH (evL g.Γ a S >>= fun x => evL g.Γ b S >>= fun y => f x y) (fun val => ∀ F' H' v, Grow F F' H H' → VR K F' H H' val v → Q v H') (ErW g E H))
    (k : ∀ x y F2 H2 v w, StOk K B F2 H2 σ S → Grow F F2 H H2 → LR K F2 H2 x v → LR K F2 H2 y w → RH (f x y) (fun val => ∀ F' H' v, Grow F2 F' H2 H' → VR K F' H2 H' val v → Q v H') (ErW g E H2) → r v w H2 Q) :
    tOp r (tL K g E a) (tL K g E b) σ H Q := by
  refine tL_then s h fun x F1 H1 v s1 g1 l1 h1 => ?_
  refine tL_then s1 h1 fun y F2 H2 w s2 g2 l2 h2 => ?_
  refine k x y F2 H2 v w s2 (g1.trans g2) (l1.grow g2) l2 (RH.imp h2 (fun val _ q F' H' u gr r => ?_) fun _ _ z => z)
  exact q F' H' u ((g1.trans g2).trans gr) (r.back (g1.trans g2).h)
/-- what follows a look, its end carried along -/
theorem tV_look {K : PySem.W.Frag} {a : Ex} {B F H : Hp} {σ : Sx} {S : Sg} {Q Q' : VK} {f : D → R Val} (s : StOk K B F H σ S)
    (h : RH (evL g.Γ a S >>= f) (fun val => ∀ F' H' v, Grow F F' H H' → VR K F' H H' val v → Q v H') (ErW g E H))
    (k : ∀ x F2 H2 v, StOk K B F2 H2 σ S → Grow F F2 H H2 → LR K F2 H2 x v → RH (f x) (fun val => ∀ F' H' v, Grow F2 F' H2 H' → VR K F' H2 H' val v → Q v H') (ErW g E H2) → Q' v H2) : tL K g E a σ H Q' := by
  refine tL_then s h fun x F1 H1 v s1 g1 l1 h1 => k x F1 H1 v s1 g1 l1 (RH.imp h1 (fun val _ q F' H' u gr r => ?_) fun _ _ z => z)
  exact q F' H' u (g1.trans gr) (r.back g1.h)
/-- a comparison's value -/
theorem cmp_end {K : PySem.W.Frag} {o : COp} {x y : D} {F H : Hp} {v w : V} {Q : VK} {f : Bool → R Val} {ok : Val → Prop} (sm : Same F H) (l1 : LR K F H x v) (l2 : LR K F H y w)
    (h : RH (cmpD o x y >>= f) ok (ErW g E H)) (k : ∀ b, RH (f b) ok (ErW g E H) → Q (.bl b) H) : rC K o v w H Q := by
  obtain ⟨b, e, q⟩ := RH.got (RH.bind h) (cmpD_er o x y)
  exact ⟨F, x, y, b, sm, l1, l2, e, k b q⟩
/-- a truth's value -/
theorem fin_b {K : PySem.W.Frag} {F H : Hp} {Q : VK} {k : Bool} (sm : Same F H) (q : RH (R.ok (Val.d (.bl k))) (fun val => ∀ F' H' v, Grow F F' H H' → VR K F' H H' val v → Q v H') (ErW g E H)) : Q (.bl k) H :=
  q F H _ (Grow.refl sm) (show Rp K F (.bl k) (.bl k) from rp_bl)
theorem bi_boot (b : Bi) : bootBuiltins b.name = some b.fn := by cases b <;> decide +kernel
theorem isi_boot {t : String} (h : t ∈ isaT) : bootBuiltins (Str.ofString t) = some (.type t) := by
  unfold isaT at h
  simp only [List.mem_cons, List.mem_nil_iff, or_false] at h
  rcases h with rfl | rfl | rfl | rfl | rfl <;> decide +kernel
theorem kit_of_isa {K : PySem.W.Frag} {u t : String} {k : Bool} (hu : u ∈ ["NoneType", "bool", "int", "str", "list", "tuple"]) (h : t ∈ isaT) (e : k = (u == t || (u == "bool" && t == "int"))) : PySem.W.kitOne K (.type u) (.type t) = some k := by
  subst e
  unfold isaT at h
  simp only [List.mem_cons, List.mem_nil_iff, or_false] at h hu
  rcases hu with rfl | rfl | rfl | rfl | rfl | rfl <;> rcases h with rfl | rfl | rfl | rfl | rfl <;> exact kit_ty (by decide +kernel)
theorem ty_of {K : PySem.W.Frag} {F H : Hp} {x : D} {v : V} {u : String} (sm : Same F H) (l : LR K F H x v) (e : tyD x = some u) : TyX K H v (.type u) ∧ u ∈ ["NoneType", "bool", "int", "str", "list", "tuple"] := by
  cases x with
  | non => obtain rfl := lr_non l; cases e; exact ⟨.base .non, by simp⟩
  | bl b => obtain rfl := lr_bl l; cases e; exact ⟨.base (.bl b), by simp⟩
  | int i => obtain rfl := lr_int l; cases e; exact ⟨.base (.int i), by simp⟩
  | str s => obtain rfl := lr_str l; cases e; exact ⟨.base (.str _), by simp⟩
  | lst xs => obtain ⟨p, vs, rfl, hp, _⟩ := l; cases e; exact ⟨.base (.lst hp), by simp⟩
  | tup xs => obtain ⟨p, vs, rfl, _, hp, _⟩ := lr_tup sm l; cases e; exact ⟨.base (.tup hp), by simp⟩
  | _ => cases e
theorem plainIx {i : Ex} {k : Expr} (h : emb c i k = true) : PlainIx k := by
  intro o x
  cases k <;> first | rfl | (cases i <;> exact noF h)
/-- a call of a def -/
theorem call_end {K : PySem.W.Frag} {f : String} {ds : List D} {own : Bool} {F H : Hp} {vs : List V} {Q : VK} (sm : Same F H) (l : LRs K F H ds vs) (kp : own = false → RpL K F ds vs)
    (h : RH (g.Γ f ds >>= fun v => kept own v) (fun val => ∀ F' H' v, Grow F F' H H' → VR K F' H H' val v → Q v H') (ErW g E H)) : spF K g f vs H Q E := by
  cases own with
  | false =>
    refine ⟨F, ds, sm, kp rfl, RH.imp (RH.bind h) (fun val _ q => ?_) fun _ _ z => z⟩
    have q : RH (if (false && !val.flat) = true then R.bad else .ok val) _ _ := q
    rw [if_neg (by simp)] at q
    exact q
  | true =>
    refine ⟨H, ds, Same.refl H, l.full sm, RH.imp (RH.bind h) (fun val _ q F' H' v gr r => ?_) fun _ _ z => z⟩
    have q : RH (if (true && !val.flat) = true then R.bad else .ok val) _ _ := q
    by_cases hf : val.flat = true
    · rw [if_neg (by simp [hf])] at q
      have g2 : Grow F F H H' := ⟨Same.refl F, sm.trans gr.h, gr.h, fun _ z => .inl z⟩
      refine q F H' v g2 ?_
      cases val with
      | d x => exact Rp.flat (show x.flat = true from hf) r F
      | fr xs =>
        obtain ⟨p, ws, e1, n, e2, _, e3⟩ := r
        exact ⟨p, ws, e1, n, e2, sm.free n, RpL.flat (show xs.all D.flat = true from hf) e3 F⟩
    · rw [if_pos (by simp [hf])] at q
      exact q.elim
theorem PTs.weak {ifs : List Expr} {t t' : TT} (h : PTs X ifs t) (w : ∀ σ H Q, t' σ H Q → t σ H Q) : PTs X ifs t' := ⟨fun pins s σ H Q I q => h.run pins s σ H Q I (w σ H Q q)⟩
theorem noEr_ok {α β : Type} {r : R α} {f : α → R β} {ok : β → Prop} {er : String → List D → Prop} (h : RH (r.noEr >>= f) ok er) : ∃ a, r = .ok a ∧ RH (f a) ok er := by
  cases r with
  | ok a => exact ⟨a, rfl, h⟩
  | er c fs => exact h.elim
  | bad => exact h.elim
theorem lc_ok {K : PySem.W.Frag} {own : List (Str × Nat)} {tg : Tg} {it : It} {d e : Ex} (ht : tgIn (own.map (·.2)) tg = true) {σ : Sx} {H : Hp} {Q : VK} (h : tV K g E (.lc own tg it d e) σ H Q) :
    tLc (tI K g E it) (tG K tg) (tT K g E0 d) (tV K g E0 e) (own.map (·.2)) σ H Q := by
  obtain ⟨B, F, S, st, h⟩ := h
  have h : RH (evI g.Γ it S >>= fun xs => if xs.length ≤ LINE then
      compL tg (wipeS S (own.map (·.2))) (fun S1 => evT g.Γ d S1) (fun S1 => ev g.Γ e S1 >>= fun v => .ok v.D) xs [] >>= fun ys => R.ok (Val.fr ys) else R.bad) _ _ := h
  have htg : ∀ i ∈ tgSlots tg, i ∈ own.map (·.2) := fun i hi => by
    cases tg with
    | one j =>
      have : i = j := List.mem_singleton.mp hi
      subst this
      exact List.contains_iff_mem.mp ht
    | tup is =>
      have := List.all_eq_true.mp ht i hi
      exact List.contains_iff_mem.mp this
  refine ⟨B, F, S, st, RH.imp (RH.bind h) (fun xs _ q J F1 H1 g1 wk D hD => ?_) fun _ _ z => z⟩
  by_cases hz : xs.length ≤ LINE
  · rw [if_pos hz] at q
    have st1 := st.grow g1
    have ne : ∀ (i : Nat) (ys : List Fv.D) (q : Addr), S[i]? = some (.own ys) → σ[i]? = some (some (.ref q)) → q ≠ D := fun i ys q h1 h2 z => by
      obtain ⟨p, vs, e1, hp, _⟩ := st1.own i ys h1
      rw [h2] at e1
      cases e1
      rw [z, hD] at hp
      cases hp
    have bD : B D = none := st1.bh.free hD
    -- what holds at a turn
    refine ⟨fun i m Hc => m = xs.length - i ∧ i ≤ xs.length ∧ ∃ Fc acc avs, StOk K B Fc Hc σ S ∧ Same F1 Fc ∧ Grow F Fc H Hc ∧ Hc D = some (.lst avs) ∧ Fc D = none ∧ RpL K Fc acc avs ∧ acc.length ≤ i ∧
        RH (compL tg (wipeS S (own.map (·.2))) (fun S1 => evT g.Γ d S1) (fun S1 => ev g.Γ e S1 >>= fun v => .ok v.D) (xs.drop i) acc >>= fun ys => R.ok (Val.fr ys)) (fun val => ∀ F' H' v, Grow F F' H H' → VR K F' H H' val v → Q v H') (fun _ _ => False), ?_, ?_⟩
    · refine ⟨xs.length, rfl, Nat.zero_le _, F1, [], [], st1.other (g1.fh.free hD) bD ne, Same.refl _, ?_, upd_same, g1.fh.free hD, RpL.nil, Nat.le_refl _, ?_⟩
      · exact ⟨g1.f, same_upd2 g1.fh (g1.fh.free hD), g1.h.trans (same_upd hD), g1.new⟩
      · have noer : ∀ (xs : List Fv.D) (acc : List Fv.D) (c : String) (fs : List Fv.D), compL tg (wipeS S (own.map (·.2))) (fun S1 => evT g.Γ d S1) (fun S1 => ev g.Γ e S1 >>= fun v => .ok v.D) xs acc ≠ .er c fs := by
          intro xs
          induction xs with
          | nil => intro acc c fs; exact ok_ne
          | cons x xs ih =>
            intro acc c fs z
            have z : (tg.set x (wipeS S (own.map (·.2))) >>= fun S1 => (evT g.Γ d S1).noEr >>= fun b => if b = true then (ev g.Γ e S1 >>= fun v => R.ok v.D).noEr >>= fun y => compL tg (wipeS S (own.map (·.2))) (fun S1 => evT g.Γ d S1) (fun S1 => ev g.Γ e S1 >>= fun v => .ok v.D) xs (acc ++ [y])
              else compL tg (wipeS S (own.map (·.2))) (fun S1 => evT g.Γ d S1) (fun S1 => ev g.Γ e S1 >>= fun v => .ok v.D) xs acc) = .er c fs := z
            have hs : ∀ c fs, tg.set x (wipeS S (own.map (·.2))) ≠ .er c fs := by
              intro c fs
              have sa : ∀ (is : List Nat) (xs : List Fv.D) (S : Sg), setAll is xs S ≠ .er c fs := by
                intro is
                induction is with
                | nil => intro xs S; cases xs <;> first | exact ok_ne | exact bad_ne
                | cons i is ih => intro xs S; cases xs with
                  | nil => exact bad_ne
                  | cons x xs => exact ih xs _
              cases tg with
              | one j => exact ok_ne
              | tup is => cases x <;> first | exact sa is _ _ | exact bad_ne
            cases e1 : tg.set x (wipeS S (own.map (·.2))) with
            | er c' fs' => exact hs c' fs' e1
            | bad => rw [e1] at z; cases z
            | ok S1 =>
              rw [e1] at z
              have z : ((evT g.Γ d S1).noEr >>= fun b => if b = true then (ev g.Γ e S1 >>= fun v => R.ok v.D).noEr >>= fun y => compL tg (wipeS S (own.map (·.2))) (fun S1 => evT g.Γ d S1) (fun S1 => ev g.Γ e S1 >>= fun v => .ok v.D) xs (acc ++ [y])
              else compL tg (wipeS S (own.map (·.2))) (fun S1 => evT g.Γ d S1) (fun S1 => ev g.Γ e S1 >>= fun v => .ok v.D) xs acc) = .er c fs := z
              cases e2 : evT g.Γ d S1 with
              | er _ _ => rw [e2] at z; cases z
              | bad => rw [e2] at z; cases z
              | ok b =>
                rw [e2] at z
                cases b with
                | false => exact ih acc c fs z
                | true =>
                  have z : ((ev g.Γ e S1 >>= fun v => R.ok v.D).noEr >>= fun y => compL tg (wipeS S (own.map (·.2))) (fun S1 => evT g.Γ d S1) (fun S1 => ev g.Γ e S1 >>= fun v => .ok v.D) xs (acc ++ [y])) = .er c fs := z
                  cases e3 : (ev g.Γ e S1 >>= fun v => R.ok v.D) with
                  | er _ _ => rw [e3] at z; cases z
                  | bad => rw [e3] at z; cases z
                  | ok y => rw [e3] at z; exact ih _ c fs z
        rw [List.drop_zero]
        obtain ⟨ys, e1, q2⟩ := RH.got (RH.bind q) (noer xs [])
        rw [e1]
        exact q2
    · rintro i m Hc ⟨rfl, hi, Fc, acc, avs, sc, sF, gc, hDc, fDc, ra, la, q⟩
      by_cases hlt : i < xs.length
      · refine .inr ⟨wk.go i Hc (sF.trans sc.fh) hlt, fun Hn => ∃ Fn acc' avs', StOk K B Fn Hn σ S ∧ Same F1 Fn ∧ Grow F Fn H Hn ∧ Hn D = some (.lst avs') ∧ Fn D = none ∧ RpL K Fn acc' avs' ∧ acc'.length ≤ i + 1 ∧
          RH (compL tg (wipeS S (own.map (·.2))) (fun S1 => evT g.Γ d S1) (fun S1 => ev g.Γ e S1 >>= fun v => .ok v.D) (xs.drop (i + 1)) acc' >>= fun ys => R.ok (Val.fr ys)) (fun val => ∀ F' H' v, Grow F F' H H' → VR K F' H H' val v → Q v H') (fun _ _ => False),
          fun H' ⟨Fn, acc', avs', a1, a2, a3, a4, a5, a6, a7, a8⟩ => ⟨xs.length - (i + 1), by omega, rfl, hlt, Fn, acc', avs', a1, a2, a3, a4, a5, a6, a7, a8⟩, fun x H' y => ?_⟩
        obtain ⟨F2, dx, g2, ex, rx⟩ := wk.yld i Fc Hc x H' sF sc.fh hlt y
        have sc2 := sc.grow g2
        have ed : xs.drop i = dx :: xs.drop (i + 1) := by
          have h3 : xs[i] = dx := by
            rw [List.getElem?_eq_getElem hlt] at ex
            exact Option.some.inj ex
          rw [List.drop_eq_getElem_cons hlt, h3]
        rw [ed] at q
        have q : RH ((tg.set dx (wipeS S (own.map (·.2))) >>= fun S1 => (evT g.Γ d S1).noEr >>= fun b => if b = true then (ev g.Γ e S1 >>= fun v => R.ok v.D).noEr >>= fun y => compL tg (wipeS S (own.map (·.2))) (fun S1 => evT g.Γ d S1) (fun S1 => ev g.Γ e S1 >>= fun v => .ok v.D) (xs.drop (i + 1)) (acc ++ [y])
              else compL tg (wipeS S (own.map (·.2))) (fun S1 => evT g.Γ d S1) (fun S1 => ev g.Γ e S1 >>= fun v => .ok v.D) (xs.drop (i + 1)) acc) >>= fun ys => R.ok (Val.fr ys)) _ _ := q
        have q := RH.bind q
        have q := RH.bind q
        cases e1 : tg.set dx (wipeS S (own.map (·.2))) with
        | er _ _ => rw [e1] at q; exact q.elim
        | bad => rw [e1] at q; exact q.elim
        | ok S1 =>
          rw [e1] at q
          refine ⟨B, F2, wipeS S (own.map (·.2)), dx, S1, sc2.wiped _, rx, e1, fun σ2 s2 w2 => ⟨(w2 _ htg).trans wipe_wipe, ?_⟩⟩
          obtain ⟨b, e2, q⟩ := noEr_ok q
          refine ⟨B, F2, S1, s2, ?_⟩
          rw [e2]
          refine fun F3 H3 g3 => ?_
          have s3 := s2.grow g3
          have c3 := sc2.grow g3
          have hD3 : H3 D = some (.lst avs) := g3.h _ _ (g2.h _ _ hDc)
          have g23 := g2.trans g3
          have fD3 : F3 D = none := g23.non fDc (by rw [hDc]; exact fun z => nomatch z)
          cases b with
          | false =>
            refine iteF ?_
            refine ⟨F3, acc, avs, c3, sF.trans g23.f, gc.trans g23, hD3, fD3, RpL.mono g23.f _ _ ra, by omega, ?_⟩
            · cases e4 : compL tg (wipeS S (own.map (·.2))) (fun S1 => evT g.Γ d S1) (fun S1 => ev g.Γ e S1 >>= fun v => .ok v.D) (xs.drop (i + 1)) acc with
              | ok ys => rw [if_neg Bool.false_ne_true, e4] at q; exact q
              | er _ _ => rw [if_neg Bool.false_ne_true, e4] at q; exact q
              | bad => rw [if_neg Bool.false_ne_true, e4] at q; exact q
          | true =>
            refine iteT ?_
            rw [if_pos rfl] at q
            obtain ⟨y0, e3, q⟩ := noEr_ok q
            refine ⟨B, F3, S1, s3, ?_⟩
            cases e4 : ev g.Γ e S1 with
            | er _ _ => rw [e4] at e3; cases e3
            | bad => rw [e4] at e3; cases e3
            | ok val =>
              rw [e4] at e3
              cases e3
              refine fun F4 H4 yv g4 r4 => ?_
              obtain ⟨F5, g5, s45, r5⟩ := r4.keep g4
              have hD4 : H4 D = some (.lst avs) := g4.h _ _ hD3
              have fD5 : F5 D = none := g5.non fD3 (by rw [hD3]; exact fun z => nomatch z)
              have c5 := c3.grow g5
              have g25 := g23.trans g5
              have z1 : avs.length < sizeLine := by
                rw [← ra.len, ← line_eq]
                omega
              refine ⟨avs, hD4, z1, F5, acc ++ [val.D], avs ++ [yv], c5.other fD5 bD ne, sF.trans g25.f, ?_, upd_same, fD5, (RpL.mono g25.f _ _ ra).app (RpL.cons r5 RpL.nil), ?_, ?_⟩
              · have gg := gc.trans g25
                exact ⟨gg.f, same_upd2 gg.fh fD5, same_upd2 gg.h (g1.h.free hD), gg.new⟩
              · rw [List.length_append]
                show acc.length + 1 ≤ i + 1
                omega
              · cases e6 : compL tg (wipeS S (own.map (·.2))) (fun S1 => evT g.Γ d S1) (fun S1 => ev g.Γ e S1 >>= fun v => .ok v.D) (xs.drop (i + 1)) (acc ++ [val.D]) with
                | ok ys => rw [e6] at q; exact q
                | er _ _ => rw [e6] at q; exact q
                | bad => rw [e6] at q; exact q
      · have ei : i = xs.length := by omega
        subst ei
        refine .inl ⟨wk.stop _ Hc (sF.trans sc.fh) (Nat.le_refl _), ?_⟩
        rw [List.drop_length] at q
        exact q Fc Hc _ gc ⟨D, avs, rfl, g1.h.free hD, hDc, fDc, ra⟩
  · rw [if_neg hz] at q
    exact q.elim
end
end Fv
end
section
set_option maxHeartbeats 4000000
namespace Fv
open PySem PySem.Spec PyProof.Rows L2
theorem plain_isTrue {e : Expr} {env : Env} (h : (match e with | .UnaryOp .Not _ _ => false | .BoolOp _ _ _ => false | .IfExp _ _ _ _ => false | .Compare _ _ _ _ => false | _ => true) = true) :
    ∀ whole, isTrue e env whole = (do let v ← whole; standAt e.pos; holding [v] (truthy v)) := by
  intro whole
  cases e with
  | UnaryOp op x pos => cases op <;> first | rfl | exact noF h
  | BoolOp _ _ _ => exact noF h
  | IfExp _ _ _ _ => exact noF h
  | Compare _ _ _ _ => exact noF h
  | _ => rfl
theorem rngD_ok {i j : Int} {xs : List D} (h : rngD i j = .ok xs) : xs = (List.range (j - i).toNat).map fun k => D.int (i + (k : Nat)) := by
  unfold rngD at h
  cases h
  rfl
theorem int_of {d : D} {i : Int} (h : d.int? = .ok i) : d = .int i := by
  cases d <;> first | (cases h; rfl) | (cases h)
section
variable {X : Cx} {c : Ck} {g : Gv} {E : XK}
/-- the ways through and, or: the rest of the row -/
theorem row_and {b : Ex} {r : Expr} {rest : List Expr} {pos : Pos} (h : (match rest with | [] => emb c b r | _ => emb c b (.BoolOp .And (r :: rest) pos)) = true) (k : ∀ e, emb c b e = true → PE X e (tV X.K g E b)) : PE X (.BoolOp .And (r :: rest) pos) (tV X.K g E b) := by
  cases rest with
  | nil => exact pe_one (k _ h)
  | cons _ _ => exact k _ h
theorem row_or {b : Ex} {r : Expr} {rest : List Expr} {pos : Pos} (h : (match rest with | [] => emb c b r | _ => emb c b (.BoolOp .Or (r :: rest) pos)) = true) (k : ∀ e, emb c b e = true → PE X e (tV X.K g E b)) : PE X (.BoolOp .Or (r :: rest) pos) (tV X.K g E b) := by
  cases rest with
  | nil => exact pe_one (k _ h)
  | cons _ _ => exact k _ h
theorem pe_val {i : Nat} {e : Expr} (hx : XOk X c g E) (h : emb c (.var i) e = true) : PE X e (tV X.K g E (.var i)) := by
  cases e with
  | Name x pos =>
    rw [emb] at h
    simp only [Bool.and_eq_true, Bool.not_eq_true', decide_eq_true_eq] at h
    obtain ⟨h1, h2, h3, h4⟩ := h
    refine PE.weak (pe_var (i := i) (by rw [hx.n]; exact h1) (by rw [hx.sc]; exact vis_of h2) h3 h4) fun σ H Q q => ?_
    obtain ⟨B, F, S, s, q⟩ := q
    have q : RH (S.get i >>= fun x => R.ok (Val.d x)) (fun val => ∀ F' H' v, Grow F F' H H' → VR X.K F' H H' val v → Q v H') (ErW g E H) := q
    unfold Sg.get at q
    split at q
    · rename_i x e
      obtain ⟨v, e1, r⟩ := s.fz i _ e
      exact ⟨v, e1, q F H v (Grow.refl s.fh) r⟩
    · exact q.elim
  | _ => exact noF h
theorem pe_cst {d : D} {e : Expr} (hx : XOk X c g E) (h : emb c (.cst d) e = true) : PE X e (tV X.K g E (.cst d)) := by
  have fin : ∀ {v : V}, (∀ F, Rp X.K F d v) → ∀ σ H Q, tV X.K g E (.cst d) σ H Q → tC v σ H Q := fun {v} r σ H Q q => by
    obtain ⟨B, F, S, s, q⟩ := q
    exact q F H v (Grow.refl s.fh) (r F)
  cases e with
  | Constant k j pos =>
    replace h : cstB d k = true := h
    cases d <;> cases k <;> try (exact noF h)
    case non.none => exact PE.weak pe_non (fin fun F => rp_non)
    case bl.bool a b =>
      have e : a = b := eq_of_beq h
      subst e
      exact PE.weak pe_bl (fin fun F => rp_bl)
    case int.int i j =>
      have e : i = j := of_decide_eq_true h
      subst e
      exact PE.weak pe_int (fin fun F => rp_int)
    case str.str s z =>
      have e : z = ⟨s.toArray⟩ := of_decide_eq_true h
      subst e
      exact PE.weak pe_str (fin fun F => rp_str)
  | Name x pos =>
    obtain ⟨h1, h2⟩ := bandE h
    obtain ⟨k1, k2, k3⟩ := glo_of hx h1
    cases e : c.G.lookup x with
    | none => rw [e] at h2; cases h2
    | some v =>
      rw [e] at h2
      obtain ⟨u, m, r⟩ := hx.con x v e
      cases d <;> cases v <;> try (exact noF h2)
      case int.int i j =>
        have e : i = j := of_decide_eq_true h2
        subst e
        exact PE.weak (pe_glob k1 m r k2) (fin fun F => rp_int)
      case str.str s z =>
        have e : z = ⟨s.toArray⟩ := of_decide_eq_true h2
        subst e
        exact PE.weak (pe_glob k1 m r k2) (fin fun F => rp_str)
  | _ => exact noF h
theorem evsL_len {Γ : Fns} {S : Sg} : ∀ {es : Exs} {l : List Expr} {xs : List D}, embs c es l = true → evsL Γ es S = .ok xs → xs.length = l.length
  | .nil, l, xs, h, e => by
    cases l with
    | nil =>
      have e : R.ok [] = R.ok xs := e
      cases e
      rfl
    | cons _ _ => exact noF h
  | .cons a r, l, xs, h, e => by
    cases l with
    | nil => exact noF h
    | cons x l =>
      obtain ⟨h1, h2⟩ := bandE h
      obtain ⟨h2, h3⟩ := bandE h2
      have e : (lookE a S (ev Γ a S) >>= fun x => evsL Γ r S >>= fun xs => R.ok (x :: xs)) = R.ok xs := e
      cases e1 : lookE a S (ev Γ a S) with
      | er _ _ => rw [e1] at e; cases e
      | bad => rw [e1] at e; cases e
      | ok y =>
        rw [e1] at e
        have e : (evsL Γ r S >>= fun xs => R.ok (y :: xs)) = R.ok xs := e
        cases e2 : evsL Γ r S with
        | er _ _ => rw [e2] at e; cases e
        | bad => rw [e2] at e; cases e
        | ok ys =>
          rw [e2] at e
          cases e
          rw [List.length_cons, List.length_cons, evsL_len h3 e2]
theorem embI_noset {it : It} {e : Expr} {env : Env} (h : embI c it e = true) : ∀ x, foldedSetIterable e env x = pure x := by
  cases it with
  | seq a => exact noset (bandE h).2
  | rng a => cases e <;> first | (intro x; rfl) | exact noF h
  | enum a => cases e <;> first | (intro x; rfl) | exact noF h
  | rng2 a b => cases e <;> first | (intro x; rfl) | exact noF h
  | rng3 a b d => cases e <;> first | (intro x; rfl) | exact noF h
  | revs a => cases e <;> first | (intro x; rfl) | exact noF h
/-- what is proved of an expression: as a value, as a test, within and, or -/
structure Snd (X : Cx) (g : Gv) (E : XK) (x : Ex) (e : Expr) : Prop where
  v : PE X e (tV X.K g E x)
  t : PT X e (tT X.K g E x)
  w : ∀ op vs pos, e = .BoolOp op vs pos → PW X e (tT X.K g E x)
def plainB (e : Expr) : Bool := match e with
  | .UnaryOp .Not _ _ => false
  | .BoolOp _ _ _ => false
  | .IfExp _ _ _ _ => false
  | .Compare _ _ _ _ => false
  | _ => true
theorem Snd.plain {x : Ex} {e : Expr} (hx : XOk X c g E) (h : emb c x e = true) (hp : plainB e = true) (p : PE X e (tV X.K g E x)) : Snd X g E x e where
  v := p
  t := pt_lk (pe_lk hx h p) (plain_isTrue hp)
  w := fun op vs pos z => by rw [z] at hp; exact noF hp
theorem get_er (S : Sg) (i : Nat) (cc : String) (fs : List D) : S.get i ≠ .er cc fs := by
  unfold Sg.get
  split
  · exact ok_ne
  · exact bad_ne
/-- a value's look -/
theorem evL_ok {Γ : Fns} {x : Ex} {S : Sg} {val : Val} (h : ev Γ x S = .ok val) : evL Γ x S = .ok val.D := by
  cases x with
  | var i =>
    have h : (S.get i >>= fun x => R.ok (Val.d x)) = .ok val := h
    show S.look i = _
    unfold Sg.get at h
    unfold Sg.look
    cases q : S[i]? with
    | none => rw [q] at h; cases h
    | some sl =>
      rw [q] at h
      cases sl with
      | fz y => cases h; rfl
      | _ => cases h
  | _ =>
    show (ev Γ _ S >>= fun x => R.ok x.D) = _
    rw [h]; rfl
theorem evL_er {Γ : Fns} {x : Ex} {S : Sg} {cc : String} {fs : List D} (h : ev Γ x S = .er cc fs) : evL Γ x S = .er cc fs := by
  cases x with
  | var i =>
    have h : (S.get i >>= fun x => R.ok (Val.d x)) = .er cc fs := h
    cases e : S.get i with
    | ok y => rw [e] at h; cases h
    | er a b => exact absurd e (get_er S i a b)
    | bad => rw [e] at h; cases h
  | _ =>
    show (ev Γ _ S >>= fun x => R.ok x.D) = _
    rw [h]; rfl
theorem evT_nt {Γ : Fns} {a : Ex} {S : Sg} : evT Γ (.nt a) S = (evT Γ a S >>= fun k => .ok (!k)) := by
  show ((evL Γ a S >>= fun x => x.truth >>= fun k => R.ok (Val.d (.bl (!k)))) >>= fun x => R.ok x.D) >>= (fun x => x.truth) = ((evL Γ a S >>= fun x => x.truth) >>= fun k => .ok (!k))
  cases evL Γ a S with
  | ok d => cases e : d.truth with
    | ok k => show ((d.truth >>= fun k => R.ok (Val.d (.bl (!k)))) >>= fun x => R.ok x.D) >>= (fun x => x.truth) = (d.truth >>= fun k => .ok (!k)); rw [e]; rfl
    | er _ _ => exact absurd e (truth_er d _ _)
    | bad => show ((d.truth >>= fun k => R.ok (Val.d (.bl (!k)))) >>= fun x => R.ok x.D) >>= (fun x => x.truth) = (d.truth >>= fun k => .ok (!k)); rw [e]; rfl
  | er _ _ => rfl
  | bad => rfl
theorem evT_and {Γ : Fns} {a b : Ex} {S : Sg} {ok : Bool → Prop} {er : String → List D → Prop} (h : RH (evT Γ (.and a b) S) ok er) : RH (evT Γ a S >>= fun k => if k then evT Γ b S else .ok false) ok er := by
  have h : RH (((ev Γ a S >>= fun v => v.D.truth >>= fun k => if k then ev Γ b S else R.ok v) >>= fun x => R.ok x.D) >>= fun x => x.truth) ok er := h
  show RH ((evL Γ a S >>= fun x => x.truth) >>= fun k => if k then evT Γ b S else .ok false) ok er
  cases e : ev Γ a S with
  | ok v =>
    rw [e] at h
    rw [evL_ok e]
    have h : RH (((v.D.truth >>= fun k => if k then ev Γ b S else R.ok v) >>= fun x => R.ok x.D) >>= fun x => x.truth) ok er := h
    show RH (v.D.truth >>= fun k => if k then evT Γ b S else .ok false) ok er
    cases e2 : v.D.truth with
    | ok k =>
      rw [e2] at h
      cases k with
      | true =>
        have h : RH ((ev Γ b S >>= fun x => R.ok x.D) >>= fun x => x.truth) ok er := h
        show RH (evL Γ b S >>= fun x => x.truth) ok er
        cases e3 : ev Γ b S with
        | ok w => rw [e3] at h; rw [evL_ok e3]; exact h
        | er _ _ => rw [e3] at h; rw [evL_er e3]; exact h
        | bad => rw [e3] at h; exact h.elim
      | false =>
        have h : RH v.D.truth ok er := h
        rw [e2] at h
        exact h
    | er _ _ => exact absurd e2 (truth_er _ _ _)
    | bad => rw [e2] at h; exact h.elim
  | er _ _ => rw [e] at h; rw [evL_er e]; exact h
  | bad => rw [e] at h; exact h.elim
theorem evT_or {Γ : Fns} {a b : Ex} {S : Sg} {ok : Bool → Prop} {er : String → List D → Prop} (h : RH (evT Γ (.or a b) S) ok er) : RH (evT Γ a S >>= fun k => if k then .ok true else evT Γ b S) ok er := by
  have h : RH (((ev Γ a S >>= fun v => v.D.truth >>= fun k => if k then R.ok v else ev Γ b S) >>= fun x => R.ok x.D) >>= fun x => x.truth) ok er := h
  show RH ((evL Γ a S >>= fun x => x.truth) >>= fun k => if k then .ok true else evT Γ b S) ok er
  cases e : ev Γ a S with
  | ok v =>
    rw [e] at h
    rw [evL_ok e]
    have h : RH (((v.D.truth >>= fun k => if k then R.ok v else ev Γ b S) >>= fun x => R.ok x.D) >>= fun x => x.truth) ok er := h
    show RH (v.D.truth >>= fun k => if k then .ok true else evT Γ b S) ok er
    cases e2 : v.D.truth with
    | ok k =>
      rw [e2] at h
      cases k with
      | false =>
        have h : RH ((ev Γ b S >>= fun x => R.ok x.D) >>= fun x => x.truth) ok er := h
        show RH (evL Γ b S >>= fun x => x.truth) ok er
        cases e3 : ev Γ b S with
        | ok w => rw [e3] at h; rw [evL_ok e3]; exact h
        | er _ _ => rw [e3] at h; rw [evL_er e3]; exact h
        | bad => rw [e3] at h; exact h.elim
      | true =>
        have h : RH v.D.truth ok er := h
        rw [e2] at h
        exact h
    | er _ _ => exact absurd e2 (truth_er _ _ _)
    | bad => rw [e2] at h; exact h.elim
  | er _ _ => rw [e] at h; rw [evL_er e]; exact h
  | bad => rw [e] at h; exact h.elim
theorem tTest_of {K : PySem.W.Frag} {x : Ex} {σ : Sx} {H : Hp} {Q : Bool → Hp → Prop} (hl : ∀ S, evL g.Γ x S = (ev g.Γ x S >>= fun x => R.ok x.D)) (hb : ∀ S val, ev g.Γ x S = .ok val → ∃ k, val = .d (.bl k)) (h : tT K g E x σ H Q) :
    tV K g E x σ H (fun v H' => ∃ k, v = .bl k ∧ Q k H') := by
  obtain ⟨B, F, S, s, q⟩ := h
  have q : RH (evL g.Γ x S >>= fun x => x.truth) (fun k => ∀ F' H', Grow F F' H H' → Q k H') (ErW g E H) := q
  rw [hl] at q
  refine ⟨B, F, S, s, ?_⟩
  cases e : ev g.Γ x S with
  | ok val =>
    obtain ⟨k, rfl⟩ := hb S val e
    rw [e] at q
    have q : ∀ F' H', Grow F F' H H' → Q k H' := q
    exact fun F' H' v gr r => ⟨k, r, q F' H' gr⟩
  | er _ _ => rw [e] at q; exact q
  | bad => rw [e] at q; exact q.elim
theorem bind_ok {α β : Type} {r : R α} {f : α → R β} {b : β} (h : (r >>= f) = .ok b) : ∃ a, r = .ok a ∧ f a = .ok b := by
  cases r with
  | ok a => exact ⟨a, rfl, h⟩
  | er _ _ => cases h
  | bad => cases h
theorem evL_cmp {Γ : Fns} {o : COp} {a b : Ex} {S : Sg} : evL Γ (.cmp o a b) S = (ev Γ (.cmp o a b) S >>= fun x => R.ok x.D) := rfl
theorem evL_chn {Γ : Fns} {o p : COp} {a b d : Ex} {S : Sg} : evL Γ (.chn o p a b d) S = (ev Γ (.chn o p a b d) S >>= fun x => R.ok x.D) := rfl
theorem cmp_bl {Γ : Fns} {o : COp} {a b : Ex} {S : Sg} {val : Val} (h : ev Γ (.cmp o a b) S = .ok val) : ∃ k, val = .d (.bl k) := by
  obtain ⟨x, _, h⟩ := bind_ok (f := fun x => evL Γ b S >>= fun y => cmpD o x y >>= fun c => R.ok (Val.d (.bl c))) h
  obtain ⟨y, _, h⟩ := bind_ok h
  obtain ⟨k, _, h⟩ := bind_ok h
  cases h
  exact ⟨k, rfl⟩
theorem chn_bl {Γ : Fns} {o p : COp} {a b d : Ex} {S : Sg} {val : Val} (h : ev Γ (.chn o p a b d) S = .ok val) : ∃ k, val = .d (.bl k) := by
  obtain ⟨x, _, h⟩ := bind_ok (f := fun x => evL Γ b S >>= fun y => cmpD o x y >>= fun k => if k then evL Γ d S >>= fun z => cmpD p y z >>= fun l => R.ok (Val.d (.bl l)) else R.ok (Val.d (.bl false))) h
  obtain ⟨y, _, h⟩ := bind_ok h
  obtain ⟨k, _, h⟩ := bind_ok h
  cases k with
  | true =>
    obtain ⟨z, _, h⟩ := bind_ok (f := fun z => cmpD p y z >>= fun l => R.ok (Val.d (.bl l))) h
    obtain ⟨k, _, h⟩ := bind_ok h
    cases h
    exact ⟨k, rfl⟩
  | false => cases h; exact ⟨false, rfl⟩
theorem row_andW {b : Ex} {r : Expr} {rest : List Expr} {pos : Pos} (h : (match rest with | [] => emb c b r | _ => emb c b (.BoolOp .And (r :: rest) pos)) = true) (k : ∀ e, emb c b e = true → Snd X g E b e) : PW X (.BoolOp .And (r :: rest) pos) (tT X.K g E b) := by
  cases rest with
  | nil => exact pw_and1 (k _ h).t
  | cons _ _ => exact (k _ h).w _ _ _ rfl
theorem row_orW {b : Ex} {r : Expr} {rest : List Expr} {pos : Pos} (h : (match rest with | [] => emb c b r | _ => emb c b (.BoolOp .Or (r :: rest) pos)) = true) (k : ∀ e, emb c b e = true → Snd X g E b e) : PW X (.BoolOp .Or (r :: rest) pos) (tT X.K g E b) := by
  cases rest with
  | nil => exact pw_or1 (k _ h).t
  | cons _ _ => exact (k _ h).w _ _ _ rfl
def tA1 (K : PySem.W.Frag) (g : Gv) (E : XK) (x : Ex) : TE := fun σ H Q => ∃ B F S, StOk K B F H σ S ∧ RH (evL g.Γ x S) (fun d => ∀ F' H' v, Grow F F' H H' → LR K F' H' d v → (ownE x S = false → Rp K F' d v) → Q v H') (ErW g E H)
theorem pe_arg {x : Ex} {e : Expr} (hx : XOk X c g E) (h : emb c x e = true) (p : PE X e (tV X.K g E x)) : PE X e (tA1 X.K g E x) := by
  cases x with
  | var i =>
    cases e with
    | Name x pos =>
      rw [emb] at h
      simp only [Bool.and_eq_true, Bool.not_eq_true', decide_eq_true_eq] at h
      obtain ⟨h1, h2, h3, h4⟩ := h
      refine PE.weak (pe_var (i := i) (by rw [hx.n]; exact h1) (by rw [hx.sc]; exact vis_of h2) h3 h4) fun σ H Q q => ?_
      obtain ⟨B, F, S, s, q⟩ := q
      have q : RH (S.look i) (fun d => ∀ F' H' v, Grow F F' H H' → LR X.K F' H' d v → (S.isOwn i = false → Rp X.K F' d v) → Q v H') (ErW g E H) := q
      unfold Sg.look at q
      split at q
      · rename_i x e
        obtain ⟨v, e1, r⟩ := s.fz i _ e
        exact ⟨v, e1, q F H v (Grow.refl s.fh) (LR.of s.fh r) fun _ => r⟩
      · rename_i xs e
        obtain ⟨p, vs, e1, hp, _, _, r⟩ := s.own i _ e
        exact ⟨.ref p, e1, q F H _ (Grow.refl s.fh) ⟨p, vs, rfl, hp, r⟩ fun z => by unfold Sg.isOwn at z; rw [e] at z; cases z⟩
      · exact q.elim
    | _ => exact noF h
  | _ =>
    refine PE.weak p fun σ H Q q => ?_
    obtain ⟨B, F, S, s, q⟩ := q
    refine ⟨B, F, S, s, ?_⟩
    have q := RH.bind (f := fun x : Val => (pure x.D : R D)) q
    refine RH.imp q (fun val _ q F' H' v gr r => ?_) fun _ _ z => z
    obtain ⟨F2, g2, _, r2⟩ := r.keep gr
    exact q F2 H' v g2 (LR.of g2.fh r2) fun _ => r2
theorem seq_er (d : D) (c : String) (fs : List D) : d.seq? ≠ .er c fs := by cases d <;> first | exact ok_ne | exact bad_ne
theorem pi_or {tg e : Expr} {t u : TI} (h1 : PI X tg e t) (h2 : PI X tg e u) : PI X tg e (fun σ H R => t σ H R ∨ u σ H R) := ⟨fun pins s σ H R I h => h.elim (h1.run pins s σ H R I) (h2.run pins s σ H R I)⟩
end
end Fv
end
section
set_option maxHeartbeats 400000
namespace Fv
open PySem PySem.Spec PyProof.Rows L2
def SndP (x : Ex) : Prop := ∀ (c : Ck) (X : Cx) (g : Gv) (E : XK) (e : Expr), XOk X c g E → emb c x e = true → Snd X g E x e
def AsP (es : Exs) : Prop := ∀ (c : Ck) (X : Cx) (g : Gv) (E : XK) (l : List Expr), XOk X c g E → embs c es l = true → PA X l (tAs X.K g E es)
def DsP (es : Exs) : Prop := ∀ (c : Ck) (X : Cx) (g : Gv) (E : XK) (l : List Expr), XOk X c g E → embs c es l = true → PA X l (tDs X.K g E es)
def ItP (it : It) : Prop := ∀ (c : Ck) (X : Cx) (g : Gv) (E : XK) (tg e : Expr), XOk X c g E → embI c it e = true → tgOk it tg = true → PI X tg e (tI X.K g E it)
theorem SndP.go {x : Ex} (h : SndP x) {c : Ck} {X : Cx} {g : Gv} {E : XK} {e : Expr} (hx : XOk X c g E) (k : emb c x e = true) : Snd X g E x e := h c X g E e hx k
theorem AsP.go {x : Exs} (h : AsP x) {c : Ck} {X : Cx} {g : Gv} {E : XK} {e : List Expr} (hx : XOk X c g E) (k : embs c x e = true) : PA X e (tAs X.K g E x) := h c X g E e hx k
theorem DsP.go {x : Exs} (h : DsP x) {c : Ck} {X : Cx} {g : Gv} {E : XK} {e : List Expr} (hx : XOk X c g E) (k : embs c x e = true) : PA X e (tDs X.K g E x) := h c X g E e hx k
theorem ItP.go {x : It} (h : ItP x) {c : Ck} {X : Cx} {g : Gv} {E : XK} {tg e : Expr} (hx : XOk X c g E) (k : embI c x e = true) (t : tgOk x tg = true) : PI X tg e (tI X.K g E x) := h c X g E tg e hx k t
section
variable {X : Cx} {c : Ck} {g : Gv} {E : XK}
theorem k_ev_var {i : Nat}  : SndP (.var i) := by
  intro c X g E e hx h
  exact Snd.plain hx h (by cases e <;> first | rfl | exact noF h) (pe_val hx h)
theorem k_ev_cst {d : D}  : SndP (.cst d) := by
  intro c X g E e hx h
  exact Snd.plain hx h (by cases e <;> first | rfl | exact noF h) (pe_cst hx h)
theorem k_ev_bin {o : BOp} {a : Ex} {b : Ex} (i_a : SndP a) (i_b : SndP b) : SndP (.bin o a b) := by
  intro c X g E e hx h
  cases e with
  | BinOp l op r pos =>
    obtain ⟨h1, h2⟩ := bandE h
    obtain ⟨h2, h3⟩ := bandE h2
    have e1 : op = o.op := of_decide_eq_true h1
    subst e1
    refine Snd.plain hx h rfl ?_
    refine PE.weak (pe_op (op_bin o) (pe_lk hx h2 (i_a.go hx h2).v) (pe_lk hx h3 (i_b.go hx h3).v)) fun σ H Q q => ?_
    obtain ⟨B, F, S, s, q⟩ := q
    refine tV_bin (f := fun x y => binD o x y) s q fun x y F2 H2 v w s2 _ l1 l2 q => ?_
    obtain ⟨val, e1, q⟩ := RH.got q (binD_er o x y)
    exact ⟨F2, x, y, val, s2.fh, l1, l2, e1, q⟩
  | _ => exact noF h
theorem k_ev_neg {a : Ex} (i_a : SndP a) : SndP (.neg a) := by
  intro c X g E e hx h
  cases e with
  | UnaryOp op l pos =>
    obtain ⟨h1, h2⟩ := bandE h
    have e1 : op = .USub := of_decide_eq_true h1
    subst e1
    refine Snd.plain hx h rfl ?_
    refine PE.weak (pe_un un_neg (pe_lk hx h2 (i_a.go hx h2).v)) fun σ H Q q => ?_
    obtain ⟨B, F, S, s, q⟩ := q
    refine tV_look (f := fun x => x.int? >>= fun i => .ok (.d (.int (-i)))) s q fun x F2 H2 v s2 _ l1 q => ?_
    obtain ⟨i, e1, q⟩ := RH.got (RH.bind q) (int_er x)
    obtain rfl := int_of e1
    exact ⟨i, lr_int l1, q F2 H2 _ (Grow.refl s2.fh) (show Rp X.K F2 (.int (-i)) (.int (-i)) from rp_int)⟩
  | _ => exact noF h
theorem k_ev_nt {a : Ex} (i_a : SndP a) : SndP (.nt a) := by
  intro c X g E e hx h
  cases e with
  | UnaryOp op l pos =>
    obtain ⟨h1, h2⟩ := bandE h
    have e1 : op = .Not := of_decide_eq_true h1
    subst e1
    have ih := i_a.go hx h2
    refine ⟨PE.weak (pe_notT (pe_lk hx h2 ih.v)) fun σ H Q q => ?_, PT.weak (pt_not ih.t) fun σ H Q q => ?_, fun _ _ _ z => nomatch z⟩
    · obtain ⟨B, F, S, s, q⟩ := q
      refine tV_look (f := fun x => x.truth >>= fun k => .ok (.d (.bl (!k)))) s q fun x F2 H2 v s2 _ l1 q => ?_
      obtain ⟨k, e1, q⟩ := RH.got (RH.bind q) (truth_er x)
      exact ⟨k, truth_ok s2.fh l1 e1, q F2 H2 _ (Grow.refl s2.fh) (show Rp X.K F2 (.bl (!k)) (.bl (!k)) from rp_bl)⟩
    · obtain ⟨B, F, S, s, q⟩ := q
      refine ⟨B, F, S, s, ?_⟩
      rw [evT_nt] at q
      exact RH.imp (RH.bind q) (fun k _ q F' H' gr => q F' H' gr) fun _ _ z => z
  | _ => exact noF h
theorem k_ev_cmp {o : COp} {a : Ex} {b : Ex} (i_a : SndP a) (i_b : SndP b) : SndP (.cmp o a b) := by
  intro c X g E e hx h
  cases e with
  | Compare l ops rs pos =>
    match ops, rs, h with
    | [op], [r], h =>
      obtain ⟨h1, q2⟩ := bandE h
      obtain ⟨h2, q3⟩ := bandE q2
      obtain ⟨h3, h4⟩ := bandE q3
      have e1 : op = o.op := of_decide_eq_true h1
      subst e1
      have pa := pe_lk hx h2 (i_a.go hx h2).v
      have pb := pe_lk hx h3 (i_b.go hx h3).v
      have wk : ∀ σ H Q, tV X.K g E (.cmp o a b) σ H Q → tOp (rC X.K o) (tL X.K g E a) (tL X.K g E b) σ H Q := fun σ H Q q => by
        obtain ⟨B, F, S, s, q⟩ := q
        refine tV_bin (f := fun x y => cmpD o x y >>= fun c => .ok (.d (.bl c))) s q fun x y F2 H2 v w s2 _ l1 l2 q => ?_
        exact cmp_end (Q := Q) s2.fh l1 l2 q fun b q => fin_b s2.fh q
      exact ⟨PE.weak (pe_cmpR (op_cmp o hx.hu) pa pb (notE h4)) wk, PT.weak (pt_cmpR (op_cmp o hx.hu) pa pb (notE h4)) fun σ H Q q => wk σ H _ (tTest_of (fun S => evL_cmp) (fun S val => cmp_bl) q), fun _ _ _ z => nomatch z⟩
    | [], _, h => exact noF h
    | [_], [], h => exact noF h
    | [_], _ :: _ :: _, h => exact noF h
    | _ :: _ :: _, [], h => exact noF h
    | _ :: _ :: _, _ :: _, h => exact noF h
  | _ => exact noF h
theorem k_ev_chn {o : COp} {p : COp} {a : Ex} {b : Ex} {d : Ex} (i_a : SndP a) (i_b : SndP b) (i_d : SndP d) : SndP (.chn o p a b d) := by
  intro c X g E e hx h
  cases e with
  | Compare l ops rs pos =>
    match ops, rs, h with
    | [op, op'], [r, r'], h =>
      obtain ⟨h1, q2⟩ := bandE h
      obtain ⟨h1', q3⟩ := bandE q2
      obtain ⟨h2, q4⟩ := bandE q3
      obtain ⟨h3, q5⟩ := bandE q4
      obtain ⟨h4, h5⟩ := bandE q5
      have e1 : op = o.op := of_decide_eq_true h1
      have e2 : op' = p.op := of_decide_eq_true h1'
      subst e1 e2
      have pa := pe_lk hx h2 (i_a.go hx h2).v
      have pb := pe_lk hx h3 (i_b.go hx h3).v
      have pd := pe_lk hx h4 (i_d.go hx h4).v
      have wk : ∀ σ H Q, tV X.K g E (.chn o p a b d) σ H Q → tChain (rC X.K o) (rC X.K p) (tL X.K g E a) (tL X.K g E b) (tL X.K g E d) σ H Q := fun σ H Q q => by
        obtain ⟨B, F, S, s, q⟩ := q
        refine tV_look (f := fun x => evL g.Γ b S >>= fun y => cmpD o x y >>= fun k => if k then evL g.Γ d S >>= fun z => cmpD p y z >>= fun l => .ok (.d (.bl l)) else .ok (.d (.bl false))) s q fun x F1 H1 v s1 g1 l1 q => ?_
        refine tV_look (f := fun y => cmpD o x y >>= fun k => if k then evL g.Γ d S >>= fun z => cmpD p y z >>= fun l => .ok (.d (.bl l)) else .ok (.d (.bl false))) s1 q fun y F2 H2 w s2 g2 l2 q => ?_
        refine cmp_end (f := fun k => if k then evL g.Γ d S >>= fun z => cmpD p y z >>= fun l => .ok (.d (.bl l)) else .ok (.d (.bl false))) s2.fh (l1.grow g2) l2 q fun k q => ?_
        refine ⟨k, rfl, ?_⟩
        cases k with
        | false =>
          rw [if_neg Bool.false_ne_true] at q
          refine iteF ?_
          exact fin_b s2.fh q
        | true =>
          rw [if_pos rfl] at q
          refine iteT ?_
          refine tV_look (f := fun z => cmpD p y z >>= fun l => .ok (.d (.bl l))) s2 q fun z F3 H3 w' s3 g3 l3 q => ?_
          exact cmp_end s3.fh (l2.grow g3) l3 q fun k q => fin_b s3.fh q
      exact ⟨PE.weak (pe_chain (op_cmp o hx.hu) (op_cmp p hx.hu) pa pb pd (notE h5)) wk, PT.weak (pt_chain (op_cmp o hx.hu) (op_cmp p hx.hu) pa pb pd (notE h5)) fun σ H Q q => wk σ H _ (tTest_of (fun S => evL_chn) (fun S val => chn_bl) q), fun _ _ _ z => nomatch z⟩
    | [], _, h => exact noF h
    | [_], [], h => exact noF h
    | [_], _ :: _, h => exact noF h
    | [_, _], [], h => exact noF h
    | [_, _], [_], h => exact noF h
    | [_, _], _ :: _ :: _ :: _, h => exact noF h
    | _ :: _ :: _ :: _, [], h => exact noF h
    | _ :: _ :: _ :: _, _ :: _, h => exact noF h
  | _ => exact noF h
theorem k_ev_and {a : Ex} {b : Ex} (i_a : SndP a) (i_b : SndP b) : SndP (.and a b) := by
  intro c X g E e hx h
  cases e with
  | BoolOp op vs pos =>
    match vs, h with
    | l :: r :: rest, h =>
      obtain ⟨h1, h2⟩ := bandE h
      obtain ⟨h2, h3⟩ := bandE h2
      have e1 : op = .And := of_decide_eq_true h1
      subst e1
      have ia := i_a.go hx h2
      have w : PW X (.BoolOp .And (l :: r :: rest) pos) (tT X.K g E (.and a b)) := by
        refine PW.weak (pw_and ia.t (row_andW h3 fun e he => i_b.go hx he)) fun σ H Q q => ?_
        obtain ⟨B, F, S, s, q⟩ := q
        replace q := evT_and q
        refine ⟨B, F, S, s, RH.imp (RH.bind q) (fun k _ q F1 H1 g1 => ?_) fun _ _ z => z⟩
        cases k with
        | true =>
          rw [if_pos rfl] at q
          refine iteT ⟨B, F1, S, s.grow g1, RH.imp q (fun k _ q F2 H2 g2 => q F2 H2 (g1.trans g2)) fun _ _ z => ErW.same g1.h z⟩
        | false =>
          rw [if_neg Bool.false_ne_true] at q
          exact iteF (q F1 H1 g1)
      refine ⟨PE.weak (pe_andT ia.v (row_and h3 fun e he => (i_b.go hx he).v)) fun σ H Q q => ?_, w.pt, fun o vs' p z => by cases z; exact w⟩
      obtain ⟨B, F, S, s, q⟩ := q
      have q : RH (ev g.Γ a S >>= fun v => v.D.truth >>= fun k => if k then ev g.Γ b S else .ok v) (fun val => ∀ F' H' v, Grow F F' H H' → VR X.K F' H H' val v → Q v H') (ErW g E H) := q
      refine ⟨B, F, S, s, RH.imp (RH.bind q) (fun val _ q F1 H1 v g1 r1 => ?_) fun _ _ z => z⟩
      obtain ⟨k, e1, q⟩ := RH.got (RH.bind q) (truth_er _)
      refine ⟨k, truth_ok g1.fh (r1.look g1.fh) e1, ?_⟩
      cases k with
      | true =>
        rw [if_pos rfl] at q
        refine iteT ⟨B, F1, S, s.grow g1, RH.imp q (fun val _ q F2 H2 w g2 r2 => q F2 H2 w (g1.trans g2) (r2.back g1.h)) fun _ _ z => ErW.same g1.h z⟩
      | false =>
        rw [if_neg Bool.false_ne_true] at q
        exact iteF (q F1 H1 v g1 r1)
    | [], h => exact noF h
    | [_], h => exact noF h
  | _ => exact noF h
theorem k_ev_or {a : Ex} {b : Ex} (i_a : SndP a) (i_b : SndP b) : SndP (.or a b) := by
  intro c X g E e hx h
  cases e with
  | BoolOp op vs pos =>
    match vs, h with
    | l :: r :: rest, h =>
      obtain ⟨h1, h2⟩ := bandE h
      obtain ⟨h2, h3⟩ := bandE h2
      have e1 : op = .Or := of_decide_eq_true h1
      subst e1
      have ia := i_a.go hx h2
      have w : PW X (.BoolOp .Or (l :: r :: rest) pos) (tT X.K g E (.or a b)) := by
        refine PW.weak (pw_or ia.t (row_orW h3 fun e he => i_b.go hx he)) fun σ H Q q => ?_
        obtain ⟨B, F, S, s, q⟩ := q
        replace q := evT_or q
        refine ⟨B, F, S, s, RH.imp (RH.bind q) (fun k _ q F1 H1 g1 => ?_) fun _ _ z => z⟩
        cases k with
        | false =>
          rw [if_neg Bool.false_ne_true] at q
          refine iteF ⟨B, F1, S, s.grow g1, RH.imp q (fun k _ q F2 H2 g2 => q F2 H2 (g1.trans g2)) fun _ _ z => ErW.same g1.h z⟩
        | true =>
          rw [if_pos rfl] at q
          exact iteT (q F1 H1 g1)
      refine ⟨PE.weak (pe_orT ia.v (row_or h3 fun e he => (i_b.go hx he).v)) fun σ H Q q => ?_, w.pt, fun o vs' p z => by cases z; exact w⟩
      obtain ⟨B, F, S, s, q⟩ := q
      have q : RH (ev g.Γ a S >>= fun v => v.D.truth >>= fun k => if k then .ok v else ev g.Γ b S) (fun val => ∀ F' H' v, Grow F F' H H' → VR X.K F' H H' val v → Q v H') (ErW g E H) := q
      refine ⟨B, F, S, s, RH.imp (RH.bind q) (fun val _ q F1 H1 v g1 r1 => ?_) fun _ _ z => z⟩
      obtain ⟨k, e1, q⟩ := RH.got (RH.bind q) (truth_er _)
      refine ⟨k, truth_ok g1.fh (r1.look g1.fh) e1, ?_⟩
      cases k with
      | true =>
        rw [if_pos rfl] at q
        exact iteT (q F1 H1 v g1 r1)
      | false =>
        rw [if_neg Bool.false_ne_true] at q
        refine iteF ⟨B, F1, S, s.grow g1, RH.imp q (fun val _ q F2 H2 w g2 r2 => q F2 H2 w (g1.trans g2) (r2.back g1.h)) fun _ _ z => ErW.same g1.h z⟩
    | [], h => exact noF h
    | [_], h => exact noF h
  | _ => exact noF h
theorem k_ev_tup {es : Exs} (d_es : DsP es) : SndP (.tup es) := by
  intro c X g E e hx h
  cases e with
  | Tuple l k pos =>
    refine Snd.plain hx h rfl ?_
    refine PE.weak (pe_tup (d_es.go hx h)) fun σ H Q q => ?_
    obtain ⟨B, F, S, s, q⟩ := q
    have q : RH (evs g.Γ es S >>= fun xs => if xs.length ≤ LINE then R.ok (Val.d (.tup xs)) else R.bad) (fun val => ∀ F' H' v, Grow F F' H H' → VR X.K F' H H' val v → Q v H') (ErW g E H) := q
    refine ⟨B, F, S, s, RH.imp (RH.bind q) (fun xs _ q F1 H1 vs g1 r1 => ?_) fun _ _ z => z⟩
    by_cases hz : xs.length ≤ LINE
    · rw [if_pos hz] at q
      refine ⟨by rw [← r1.len, ← line_eq]; exact hz, fun p hp => ?_⟩
      refine q _ _ _ (g1.trans (Grow.newF (o := .tup vs) g1.fh hp)) ?_
      exact rp_tup upd_same (RpL.mono (same_upd (g1.fh.free hp)) _ _ r1)
    · rw [if_neg hz] at q
      exact q.elim
  | _ => exact noF h
theorem k_ev_lst {es : Exs} (d_es : DsP es) : SndP (.lst es) := by
  intro c X g E e hx h
  cases e with
  | List l pos =>
    refine Snd.plain hx h rfl ?_
    refine PE.weak (pe_lst (d_es.go hx h)) fun σ H Q q => ?_
    obtain ⟨B, F, S, s, q⟩ := q
    have q : RH (evs g.Γ es S >>= fun xs => if xs.length ≤ LINE then R.ok (Val.fr xs) else R.bad) (fun val => ∀ F' H' v, Grow F F' H H' → VR X.K F' H H' val v → Q v H') (ErW g E H) := q
    refine ⟨B, F, S, s, RH.imp (RH.bind q) (fun xs _ q F1 H1 vs g1 r1 => ?_) fun _ _ z => z⟩
    by_cases hz : xs.length ≤ LINE
    · rw [if_pos hz] at q
      refine ⟨by rw [← r1.len, ← line_eq]; exact hz, fun p hp => ?_⟩
      exact q _ _ _ (g1.trans (Grow.newH (o := .lst vs) g1.fh hp)) ⟨p, vs, rfl, g1.h.free hp, upd_same, g1.fh.free hp, r1⟩
    · rw [if_neg hz] at q
      exact q.elim
  | _ => exact noF h
theorem k_ev_sub {a : Ex} {i : Ex} (i_a : SndP a) (i_i : SndP i) : SndP (.sub a i) := by
  intro c X g E e hx h
  cases e with
  | Subscript l k pos =>
    obtain ⟨h1, h2⟩ := bandE h
    refine Snd.plain hx h rfl ?_
    refine PE.weak (pe_ix ix_all (pe_lk hx h1 (i_a.go hx h1).v) (pe_lk hx h2 (i_i.go hx h2).v) (plainIx h2)) fun σ H Q q => ?_
    obtain ⟨B, F, S, s, q⟩ := q
    refine tV_bin (f := fun x k => subD x k >>= fun y => .ok (.d y)) s q fun x y F2 H2 v w s2 _ l1 l2 q => ?_
    obtain ⟨z, e1, q⟩ := RH.got (RH.bind q) (subD_er x y)
    exact ⟨F2, x, y, z, s2.fh, l1, l2, e1, fun v r => q F2 H2 v (Grow.refl s2.fh) r⟩
  | _ => exact noF h
theorem k_ev_slc {a : Ex} {lo : Ex} {hi : Ex} (i_a : SndP a) (i_lo : SndP lo) (i_hi : SndP hi) : SndP (.slc a lo hi) := by
  intro c X g E e hx h
  cases e with
  | Subscript l k pos =>
    match k, h with
    | .Slice (some x) (some y) none p2, h =>
      obtain ⟨h1, h2⟩ := bandE h
      obtain ⟨h2, h3⟩ := bandE h2
      refine Snd.plain hx h rfl ?_
      refine PE.weak (pe_slice sl_all (pe_lk hx h1 (i_a.go hx h1).v) (po_some (pe_lk hx h2 (i_lo.go hx h2).v)) (po_some (pe_lk hx h3 (i_hi.go hx h3).v))) fun σ H Q q => ?_
      obtain ⟨B, F, S, s, q⟩ := q
      refine tV_look (f := fun x => evL g.Γ lo S >>= fun l => l.int? >>= fun i => evL g.Γ hi S >>= fun h => h.int? >>= fun j => slcD x (some i) (some j)) s q fun x F1 H1 v s1 g1 l1 q => ?_
      refine tV_look (f := fun l => l.int? >>= fun i => evL g.Γ hi S >>= fun h => h.int? >>= fun j => slcD x (some i) (some j)) s1 q fun y F2 H2 w s2 g2 l2 q => ?_
      obtain ⟨i, e1, q⟩ := RH.got (RH.bind q) (int_er y)
      obtain rfl := int_of e1
      refine ⟨i, lr_int l2, ?_⟩
      refine tV_look (f := fun h => h.int? >>= fun j => slcD x (some i) (some j)) s2 q fun z F3 H3 u s3 g3 l3 q => ?_
      obtain ⟨j, e1, q⟩ := RH.got (RH.bind q) (int_er z)
      obtain rfl := int_of e1
      refine ⟨j, lr_int l3, ?_⟩
      obtain ⟨val, e2, q⟩ := RH.got q (slcD_er x _ _)
      exact ⟨F3, x, val, s3.fh, (l1.grow g2).grow g3, e2, q⟩
    | .Slice none _ _ _, h => exact noF h
    | .Slice (some _) none _ _, h => exact noF h
    | .Slice (some _) (some _) (some _) _, h => exact noF h
    | .BoolOp .., h => exact noF h
    | .NamedExpr .., h => exact noF h
    | .BinOp .., h => exact noF h
    | .UnaryOp .., h => exact noF h
    | .Lambda .., h => exact noF h
    | .IfExp .., h => exact noF h
    | .Dict .., h => exact noF h
    | .Set .., h => exact noF h
    | .ListComp .., h => exact noF h
    | .SetComp .., h => exact noF h
    | .DictComp .., h => exact noF h
    | .GeneratorExp .., h => exact noF h
    | .Await .., h => exact noF h
    | .Yield .., h => exact noF h
    | .YieldFrom .., h => exact noF h
    | .Compare .., h => exact noF h
    | .Call .., h => exact noF h
    | .FormattedValue .., h => exact noF h
    | .JoinedStr .., h => exact noF h
    | .Constant .., h => exact noF h
    | .Attribute .., h => exact noF h
    | .Subscript .., h => exact noF h
    | .Starred .., h => exact noF h
    | .Name .., h => exact noF h
    | .List .., h => exact noF h
    | .Tuple .., h => exact noF h
  | _ => exact noF h
theorem k_ev_slcL {a : Ex} {lo : Ex} (i_a : SndP a) (i_lo : SndP lo) : SndP (.slcL a lo) := by
  intro c X g E e hx h
  cases e with
  | Subscript l k pos =>
    cases k with
    | Slice x y z p2 =>
      cases x with
      | none => cases y <;> cases z <;> exact noF h
      | some x =>
        cases y with
        | some _ => cases z <;> exact noF h
        | none =>
          cases z with
          | some _ => exact noF h
          | none =>
            obtain ⟨h1, h2⟩ := bandE h
            refine Snd.plain hx h rfl ?_
            refine PE.weak (pe_slice sl_all (pe_lk hx h1 (i_a.go hx h1).v) (po_some (pe_lk hx h2 (i_lo.go hx h2).v)) po_none) fun σ H Q q => ?_
            obtain ⟨B, F, S, s, q⟩ := q
            refine tV_look (f := fun x => evL g.Γ lo S >>= fun l => l.int? >>= fun i => slcD x (some i) none) s q fun x F1 H1 v s1 g1 l1 q => ?_
            refine tV_look (f := fun l => l.int? >>= fun i => slcD x (some i) none) s1 q fun y F2 H2 w s2 g2 l2 q => ?_
            obtain ⟨i, e1, q⟩ := RH.got (RH.bind q) (int_er y)
            obtain rfl := int_of e1
            refine ⟨i, lr_int l2, ?_⟩
            obtain ⟨val, e2, q⟩ := RH.got q (slcD_er x _ _)
            exact ⟨F2, x, val, s2.fh, l1.grow g2, e2, q⟩
    | _ => exact noF h
  | _ => exact noF h
theorem k_ev_slcH {a : Ex} {hi : Ex} (i_a : SndP a) (i_hi : SndP hi) : SndP (.slcH a hi) := by
  intro c X g E e hx h
  cases e with
  | Subscript l k pos =>
    cases k with
    | Slice x y z p2 =>
      cases x with
      | some _ => cases y <;> cases z <;> exact noF h
      | none =>
        cases y with
        | none => cases z <;> exact noF h
        | some y =>
          cases z with
          | some _ => exact noF h
          | none =>
            obtain ⟨h1, h2⟩ := bandE h
            refine Snd.plain hx h rfl ?_
            refine PE.weak (pe_slice sl_all (pe_lk hx h1 (i_a.go hx h1).v) po_none (po_some (pe_lk hx h2 (i_hi.go hx h2).v))) fun σ H Q q => ?_
            obtain ⟨B, F, S, s, q⟩ := q
            refine tV_look (f := fun x => evL g.Γ hi S >>= fun l => l.int? >>= fun i => slcD x none (some i)) s q fun x F1 H1 v s1 g1 l1 q => ?_
            refine tV_look (f := fun l => l.int? >>= fun i => slcD x none (some i)) s1 q fun y F2 H2 w s2 g2 l2 q => ?_
            obtain ⟨i, e1, q⟩ := RH.got (RH.bind q) (int_er y)
            obtain rfl := int_of e1
            refine ⟨i, lr_int l2, ?_⟩
            obtain ⟨val, e2, q⟩ := RH.got q (slcD_er x _ _)
            exact ⟨F2, x, val, s2.fh, l1.grow g2, e2, q⟩
    | _ => exact noF h
  | _ => exact noF h
theorem k_ev_call {f : String} {es : Exs} (j_es : AsP es) : SndP (.call f es) := by
  intro c X g E e hx h
  cases e with
  | Call fn l kw pos =>
    cases fn with
    | Name x p =>
      cases kw with
      | cons _ _ => exact noF h
      | nil =>
        obtain ⟨h1, h2⟩ := bandE h
        obtain ⟨h2, h3⟩ := bandE h2
        obtain ⟨h3, h4⟩ := bandE h3
        obtain ⟨k1, k2, k3⟩ := glo_of hx h2
        have e1 : x = Str.ofString f := of_decide_eq_true h1
        obtain ⟨a, fd, ps, k, dvs, ds, sp, hm, hk, hr, hb, hd, F, imp⟩ := (hx.fn f l.length h3).ex
        have hm2 : X.mg x = some (.ref a) := by rw [e1]; exact hm
        have fin : ∀ σ H Q, tV X.K g E (.call f es) σ H Q → tAs X.K g E es σ H fun vs H1 => vs.length = l.length → sp (vs ++ dvs) H1 Q E := fun σ H Q q => by
          obtain ⟨B, Fh, S, s, q⟩ := q
          have q : RH (evsL g.Γ es S >>= fun xs => g.Γ f xs >>= fun v => kept (anyOwn es S) v) (fun val => ∀ F' H' v, Grow Fh F' H H' → VR X.K F' H H' val v → Q v H') (ErW g E H) := q
          refine ⟨B, Fh, S, s, RH.imp (RH.bind q) (fun xs _ q F1 H1 vs g1 l1 r1 hl => ?_) fun _ _ z => z⟩
          refine imp vs H1 Q E hl ?_
          refine call_end (g := g) (E := E) g1.fh l1 r1 (RH.imp q (fun val _ q F2 H2 w g2 r2 => q F2 H2 w (g1.trans g2) (r2.back g1.h)) fun _ _ z => ErW.same g1.h z)
        cases es with
        | nil =>
          cases l with
          | cons _ _ => exact noF h4
          | nil =>
            refine Snd.plain hx h rfl ?_
            refine PE.weak (pe_call0 F hr k1 hm2 hk hb hd hx.ps k2) fun σ H Q q => ?_
            obtain ⟨B, Fh, S, s, q⟩ := fin σ H Q q
            have q2 := q Fh H [] (Grow.refl s.fh) rfl (fun _ => RpL.nil) rfl
            exact q2
        | cons e r =>
          cases l with
          | nil => exact noF h4
          | cons x0 l =>
            have st := embs_stars h4
            have h5 : isStar x0 = false := by
              rw [List.all_cons] at st
              exact notE (bandE st).1
            have pa := j_es.go hx h4
            refine Snd.plain hx h rfl ?_
            refine PE.weak (pe_call F hr k1 hm2 hk hb hd hx.ps pa k2 (star_of h5) (plain_back (e := x0) (by rw [List.all_cons] at st; exact (bandE st).2))) fun σ H Q q => ?_
            obtain ⟨B, Fh, S, s, q⟩ := fin σ H Q q
            refine ⟨B, Fh, S, s, RH.imp q (fun xs e2 q F1 H1 vs g1 l1 r1 => q F1 H1 vs g1 l1 r1 ?_) fun _ _ z => z⟩
            rw [← l1.len]
            exact evsL_len h4 e2
    | _ => exact noF h
  | _ => exact noF h
theorem k_ev_bi {b : Bi} {es : Exs} (j_es : AsP es) : SndP (.bi b es) := by
  intro c X g E e hx h
  cases e with
  | Call fn l kw pos =>
    cases fn with
    | Name x p =>
      cases kw with
      | cons _ _ => exact noF h
      | nil =>
        obtain ⟨h1, h2⟩ := bandE h
        obtain ⟨h2, h3⟩ := bandE h2
        obtain ⟨h3, h4⟩ := bandE h3
        obtain ⟨h4, h5⟩ := bandE h4
        obtain ⟨k1, k2, k3⟩ := glo_of hx h2
        have e1 : x = b.name := of_decide_eq_true h1
        have hm := hx.fr x h3
        have hv : bootBuiltins x = some b.fn := by rw [e1]; exact bi_boot b
        cases es with
        | nil =>
          cases l with
          | nil => exact noF h4
          | cons _ _ => exact noF h5
        | cons e r =>
          cases l with
          | nil => exact noF h5
          | cons x0 l =>
            have st := embs_stars h5
            have h6 : isStar x0 = false := by
              rw [List.all_cons] at st
              exact notE (bandE st).1
            have pa := j_es.go hx h5
            have fin : ∀ σ H Q, tV X.K g E (.bi b (.cons e r)) σ H Q → tCB (rBi X.K b) (tAs X.K g E (.cons e r)) σ H Q := fun σ H Q q => by
              obtain ⟨B, Fh, S, s, q⟩ := q
              have q : RH (evsL g.Γ (.cons e r) S >>= fun xs => biD b xs >>= fun v => .ok v) (fun val => ∀ F' H' v, Grow Fh F' H H' → VR X.K F' H H' val v → Q v H') (ErW g E H) := q
              refine ⟨B, Fh, S, s, RH.imp (RH.bind q) (fun xs _ q F1 H1 vs g1 l1 _ => ?_) fun _ _ z => z⟩
              obtain ⟨val, e1, q⟩ := RH.got (RH.bind q) (biD_er b xs)
              exact ⟨F1, xs, val, g1.fh, l1, e1, fun F2 H2 w g2 r2 => q F2 H2 w (g1.trans g2) (r2.back g1.h)⟩
            have pb := plain_back (e := x0) (pos := pos) (env := X.env) (by rw [List.all_cons] at st; exact (bandE st).2)
            have cr := cr_bi b hx.calm
            refine Snd.plain hx h rfl ?_
            refine PE.weak ?_ fin
            cases b <;> first
              | exact pe_callB cr k1 hm hv pa k3 k2 (star_of h6) pb
              | exact pe_callTy cr k1 hm hv pa k3 k2 (star_of h6) pb
    | _ => exact noF h
  | _ => exact noF h
theorem k_ev_isa {a : Ex} {t : String} (i_a : SndP a) : SndP (.isa a t) := by
  intro c X g E e hx h
  cases e with
  | Call fn l kw pos =>
    cases fn with
    | Name x p =>
      match l, kw, h with
      | [l, .Name y p2], [], h =>
        obtain ⟨h1, h2⟩ := bandE h
        obtain ⟨h2, h3⟩ := bandE h2
        obtain ⟨h3, h4⟩ := bandE h3
        obtain ⟨h4, h5⟩ := bandE h4
        obtain ⟨h5, h6⟩ := bandE h5
        obtain ⟨h6, h7⟩ := bandE h6
        obtain ⟨h7, h8⟩ := bandE h7
        have e1 : x = ("isinstance" : Str) := of_decide_eq_true h1
        have e2 : y = Str.ofString t := of_decide_eq_true h2
        have ht : t ∈ isaT := of_decide_eq_true h7
        obtain ⟨k1, k2, k3⟩ := glo_of hx h3
        obtain ⟨j1, j2, j3⟩ := glo_of hx h4
        have hm := hx.fr x h5
        have hm2 := hx.fr y h6
        have hv : bootBuiltins x = some (.builtin "isinstance") := by rw [e1]; exact boot_isinstance
        have hv2 : bootBuiltins y = some (.type t) := by rw [e2]; exact isi_boot ht
        have h9 : isStar l = false := by
          cases l <;> first | rfl | (cases a <;> exact noF h8)
        refine Snd.plain hx h rfl ?_
        refine PE.weak (pe_callB call_isi k1 hm hv (pa_cons (pe_lk hx h8 (i_a.go hx h8).v) (pa_cons (pe_bltn (v := .ty t) j1 hm2 hv2 rfl j3 j2) pa_nil rfl) (star_of h9)) k3 k2 (star_of h9) rfl) fun σ H Q q => ?_
        obtain ⟨B, F, S, s, q⟩ := q
        refine tV_look (f := fun x => isaD x t >>= fun k => .ok (.d (.bl k))) s q fun x F2 H2 v s2 _ l1 q => ?_
        obtain ⟨k, e3, q⟩ := RH.got (RH.bind q) (isaD_er x t)
        have e3 : (match tyD x with | some u => if t ∈ isaT then R.ok (u == t || (u == "bool" && t == "int")) else R.bad | none => R.bad) = .ok k := e3
        cases e4 : tyD x with
        | none => rw [e4] at e3; cases e3
        | some u =>
          rw [e4] at e3
          simp only [if_pos ht] at e3
          cases e3
          obtain ⟨ty, hu⟩ := ty_of s2.fh l1 e4
          exact ⟨v, .ty t, .type u, .type t, _, rfl, .ty t, ty, kit_of_isa hu ht rfl, fin_b s2.fh q⟩
      | [], _, h => exact noF h
      | [_], _, h => exact noF h
      | _ :: y :: _ :: _, _, h => cases y <;> exact noF h
      | [_, .Name _ _], _ :: _, h => exact noF h
      | [_, .BoolOp ..], _, h => exact noF h
      | [_, .NamedExpr ..], _, h => exact noF h
      | [_, .BinOp ..], _, h => exact noF h
      | [_, .UnaryOp ..], _, h => exact noF h
      | [_, .Lambda ..], _, h => exact noF h
      | [_, .IfExp ..], _, h => exact noF h
      | [_, .Dict ..], _, h => exact noF h
      | [_, .Set ..], _, h => exact noF h
      | [_, .ListComp ..], _, h => exact noF h
      | [_, .SetComp ..], _, h => exact noF h
      | [_, .DictComp ..], _, h => exact noF h
      | [_, .GeneratorExp ..], _, h => exact noF h
      | [_, .Await ..], _, h => exact noF h
      | [_, .Yield ..], _, h => exact noF h
      | [_, .YieldFrom ..], _, h => exact noF h
      | [_, .Compare ..], _, h => exact noF h
      | [_, .Call ..], _, h => exact noF h
      | [_, .FormattedValue ..], _, h => exact noF h
      | [_, .JoinedStr ..], _, h => exact noF h
      | [_, .Constant ..], _, h => exact noF h
      | [_, .Attribute ..], _, h => exact noF h
      | [_, .Subscript ..], _, h => exact noF h
      | [_, .Starred ..], _, h => exact noF h
      | [_, .List ..], _, h => exact noF h
      | [_, .Tuple ..], _, h => exact noF h
      | [_, .Slice ..], _, h => exact noF h
    | _ => exact noF h
  | _ => exact noF h
theorem async0 {own : List (Str × Nat)} {tg : Tg} {it : It} {d e : Ex} {l t i : Expr} {ifs : List Expr} {n : Int} {scope : Scope} {pos : Pos} (h : emb c (.lc own tg it d e) (.ListComp l [⟨t, i, ifs, n⟩] scope pos) = true) : n = 0 := by
  by_cases hn : n = 0
  · exact hn
  · unfold emb at h
    split at h
    · rename_i e1
      cases e1
      exact absurd rfl hn
    · cases h
theorem comp2 {own : List (Str × Nat)} {tg : Tg} {it : It} {d e : Ex} {l : Expr} {a b : Comprehension} {r : List Comprehension} {scope : Scope} {pos : Pos} (h : emb c (.lc own tg it d e) (.ListComp l (a :: b :: r) scope pos) = true) : False := by
  unfold emb at h
  split at h
  · rename_i e1
    cases e1
  · cases h
theorem k_ev_lc {own : List (Str × Nat)} {tg : Tg} {it : It} {d : Ex} {e : Ex} (i_d : SndP d) (t_it : ItP it) (i_e : SndP e) : SndP (.lc own tg it d e) := by
  intro c X g E ex hx h
  cases ex with
  | ListComp l gens scope pos =>
    match gens, h with
    | [⟨t, i, ifs, n⟩], h =>
      obtain rfl := async0 h
      obtain ⟨h1, h2⟩ := bandE h
      obtain ⟨h2', h2⟩ := bandE h2
      obtain ⟨h2, h3⟩ := bandE h2
      obtain ⟨h2, hT⟩ := bandE h2
      obtain ⟨h3, h4⟩ := bandE h3
      obtain ⟨h4, h5⟩ := bandE h4
      have ok : BlkOk X.N X.env.scope scope own := by rw [hx.n, hx.sc]; exact blkOk_by h1
      have ht : ∀ (s : Shared) (H : Hp) (C : Addr) (cl : List (Str × Addr)) (fp : List Addr), PTs (X.blk s H scope (compEnvC scope cl C X.env) fp) ifs (tT X.K g E0 d) := fun s H C cl fp => by
        match ifs, h5 with
        | [], h5 =>
          have e1 : d = .cst (.bl true) := by
            match d, h5 with
            | .cst (.bl true), _ => rfl
          subst e1
          refine PTs.weak pts_nil fun σ H Q q => ?_
          obtain ⟨B, F, S, s, q⟩ := q
          exact q F H (Grow.refl s.fh)
        | [z], h5 => exact pts_one (i_d.go (hx.blk ok s H C cl fp) h5).t
      refine Snd.plain hx h rfl ?_
      refine PE.weak (pe_lc hx.calm hx.nd (t_it.go hx h2 hT) ok (fun s H C cl fp => pg_tg (hx.blk ok s H C cl fp) h3) ht (fun s H C cl fp => (i_e.go (hx.blk ok s H C cl fp) h4).v) (embI_noset h2)) fun σ H Q q => lc_ok h2' q
    | [], h => exact noF h
    | _ :: _ :: _, h => exact (comp2 h).elim
  | _ => exact noF h
theorem str?_er (d : D) (c : String) (fs : List D) : d.str? ≠ .er c fs := by cases d <;> first | exact ok_ne | exact bad_ne
theorem str?_ok {d : D} {s : Tx} (h : d.str? = .ok s) : d = .str s := by
  cases d <;> first | (cases h; rfl) | (cases h)
theorem m1D_er (m : M1) (s : Tx) (d : D) (c : String) (fs : List D) : m1D m s d ≠ .er c fs := by
  cases m <;> cases d <;> first | exact bad_ne | exact ite_er ok_ne | exact mat_er fun _ => ite_er ok_ne
theorem plainO_ok {o : Expr} {nm : Str} {env : Env} (h : plainO o = true) : attributeBase o nm env (eval o env) = eval o env := by
  cases o with
  | Name _ _ => rfl
  | Constant _ _ _ => rfl
  | Subscript _ _ _ => rfl
  | Call fn l kw pos =>
    cases l with
    | nil => exact noF h
    | cons x r => cases fn <;> rfl
  | _ => exact noF h
theorem k_ev_m1 {m : M1} {a : Ex} {b : Ex} (i_a : SndP a) (i_b : SndP b) : SndP (.m1 m a b) := by
  intro c X g E e hx h
  unfold emb at h
  split at h
  · rename_i o n apos l cpos
    obtain ⟨h1, q1⟩ := bandE h
    obtain ⟨h2, q2⟩ := bandE q1
    obtain ⟨h3, q3⟩ := bandE q2
    obtain ⟨h4, q4⟩ := bandE q3
    obtain ⟨h5, h6⟩ := bandE q4
    have e1 : n = m.name := of_decide_eq_true h1
    subst e1
    have pa := pe_lk hx h5 (i_a.go hx h5).v
    have pb := pe_lk hx h6 (i_b.go hx h6).v
    have hb : ∀ nm, attributeBase o nm X.env (eval o X.env) = eval o X.env := fun nm => plainO_ok h2
    have pm : PE X (.Call (.Attribute o m.name apos) [l] [] cpos) (tM1 (rM1 X.K m) (tL X.K g E a) (tL X.K g E b)) := by
      cases m with
      | split => exact pe_m1 PySem.F.slot_str_split PySem.F.type_str_split mt_m1split pa pb (star_of (notE h4)) (hb _) h3
      | join => exact pe_m1 PySem.F.slot_str_join PySem.F.type_str_join mt_m1join pa pb (star_of (notE h4)) (hb _) h3
    have hh : emb c (.m1 m a b) (.Call (.Attribute o m.name apos) [l] [] cpos) = true := by
      rw [emb]
      exact h
    refine Snd.plain hx hh rfl (PE.weak pm fun σ H Q q => ?_)
    obtain ⟨B, F, S, s, q⟩ := q
    refine tV_look (f := fun x => x.str? >>= fun s => evL g.Γ b S >>= fun y => m1D m s y) s q fun x F1 H1 v s1 g1 l1 q => ?_
    obtain ⟨t, e1, q⟩ := RH.got (RH.bind q) (str?_er x)
    obtain rfl := str?_ok e1
    refine ⟨⟨_, lr_str l1⟩, ?_⟩
    refine tV_look (f := fun y => m1D m t y) s1 q fun y F2 H2 w s2 g2 l2 q => ?_
    obtain ⟨val, e2, q⟩ := RH.got q (m1D_er m t y)
    exact ⟨F2, t, y, w, val, lr_str l1, rfl, s2.fh, l2, e2, q⟩
  · cases h
theorem fldD_er (cs : List String) (n : String) (d : D) (c : String) (fs : List D) : fldD cs n d ≠ .er c fs := by
  cases d <;> first | exact bad_ne | exact ite_er (mat_er fun _ => ok_ne)
theorem clsOf_er (cs : List String) (n : String) (d : D) (c : String) (fs : List D) : clsOf cs n d ≠ .er c fs := by
  cases d <;> first | exact bad_ne | exact ite_er ok_ne
theorem ofS_inj {a b : String} (h : Str.ofString a = Str.ofString b) : a = b := by
  have e := congrArg (fun x : Str => x.cps.toList) h
  simp only [PyProof.Rows.signs_ofString] at e
  have e2 : a.toList = b.toList := (List.map_inj_right (fun x y h => Char.ext (UInt32.toNat_inj.mp h))).mp e
  first | exact String.toList_inj.mp e2 | exact String.ext e2 | exact String.ext_iff.mpr e2
theorem zip_look {K : PySem.W.Frag} {F : Hp} {n : String} {y : D} : ∀ {ns : List String} {xs : List D} {vs : List V}, RpL K F xs vs → (ns.zip xs).lookup n = some y → ∃ v, ((ns.map Str.ofString).zip vs).lookup (Str.ofString n) = some v ∧ Rp K F y v
  | [], _, _, _, e => by cases e
  | _ :: _, [], _, _, e => by cases e
  | m :: ns, x :: xs, vs, r, e => by
    rw [RpL] at r
    obtain ⟨v, r', rfl, h1, h2⟩ := r
    rw [List.zip_cons_cons, List.lookup_cons] at e
    rw [List.map_cons, List.zip_cons_cons, List.lookup_cons]
    by_cases hm : n = m
    · subst hm
      rw [beq_self_eq_true] at e ⊢
      cases e
      exact ⟨v, rfl, h1⟩
    · have b1 : (n == m) = false := by simpa using hm
      have b2 : (Str.ofString n == Str.ofString m) = false := by
        rw [beq_eq_false_iff_ne]
        exact fun z => hm (ofS_inj z)
      rw [b1] at e
      rw [b2]
      exact zip_look h2 e
theorem zip_none {n : String} : ∀ {ns : List String} {vs : List V}, n ∉ ns → ((ns.map Str.ofString).zip vs).lookup (Str.ofString n) = none
  | [], _, _ => rfl
  | _ :: _, [], _ => rfl
  | m :: ns, v :: vs, h => by
    rw [List.map_cons, List.zip_cons_cons, List.lookup_cons]
    have b2 : (Str.ofString n == Str.ofString m) = false := by
      rw [beq_eq_false_iff_ne]
      exact fun z => h (by rw [ofS_inj z]; exact List.mem_cons_self ..)
    rw [b2]
    exact zip_none fun z => h (List.mem_cons_of_mem _ z)
theorem fld_ok {cs : List String} {n : String} {d y : D} (h : fldD cs n d = .ok y) : ∃ c ns xs, d = .ins c ns xs ∧ c ∈ cs ∧ (ns.zip xs).lookup n = some y := by
  cases d with
  | ins c ns xs =>
    have h : (if c ∈ cs then optR ((ns.zip xs).lookup n) R.ok else .bad) = .ok y := h
    by_cases hc : c ∈ cs
    · rw [if_pos hc] at h
      cases e : (ns.zip xs).lookup n with
      | none => rw [e] at h; cases h
      | some z => rw [e] at h; cases h; exact ⟨c, ns, xs, rfl, hc, e⟩
    · rw [if_neg hc] at h; cases h
  | _ => cases h
theorem cls_ok {cs : List String} {m : String} {d : D} {c : String} (h : clsOf cs m d = .ok c) : ∃ ns xs, d = .ins c ns xs ∧ c ∈ cs ∧ m ∉ ns := by
  cases d with
  | ins c' ns xs =>
    have h : (if c' ∈ cs ∧ m ∉ ns then R.ok c' else .bad) = .ok c := h
    by_cases hc : c' ∈ cs ∧ m ∉ ns
    · rw [if_pos hc] at h; cases h; exact ⟨ns, xs, rfl, hc.1, hc.2⟩
    · rw [if_neg hc] at h; cases h
  | _ => cases h
theorem lr_ins {K : PySem.W.Frag} {F H : Hp} {c : String} {ns : List String} {xs : List D} {v : V} (sm : Same F H) (h : LR K F H (.ins c ns xs) v) : ∃ a dx fsV vs, v = .ref a ∧ H a = some (.ins (He.ga K (Str.ofString c)) dx fsV) ∧ RpL K F xs vs ∧ ns.length = xs.length ∧ ∀ n : Str, fsV.lookup n = ((ns.map Str.ofString).zip vs).lookup n := by
  have h : Rp K F (.ins c ns xs) v := h
  rw [Rp] at h
  obtain ⟨a, dx, fsV, vs, e1, e2, e3⟩ := h
  exact ⟨a, dx, fsV, vs, e1, sm _ _ e2, e3⟩
theorem noCall_base {o : Expr} {f : Str} {env : Env} (h : noCall o = true) : attributeBase o f env (eval o env) = eval o env := by
  cases o <;> first | rfl | exact noF h
theorem k_ev_fld {cs : List String} {a : Ex} {n : String} (i_a : SndP a) : SndP (.fld cs a n) := by
  intro c X g E e hx h
  cases e with
  | Attribute o f pos =>
    obtain ⟨h1, q1⟩ := bandE h
    obtain ⟨h2, q2⟩ := bandE q1
    obtain ⟨h3, h4⟩ := bandE q2
    have e1 : f = Str.ofString n := of_decide_eq_true h1
    subst e1
    refine Snd.plain hx h rfl (PE.weak (pe_fld (pe_lk hx h4 (i_a.go hx h4).v) (noCall_base h2)) fun σ H Q q => ?_)
    obtain ⟨B, F, S, s, q⟩ := q
    refine tV_look (f := fun x => fldD cs n x >>= fun y => .ok (.d y)) s q fun x F1 H1 v s1 g1 l1 q => ?_
    obtain ⟨y, e1, q5⟩ := RH.got (RH.bind q) (fldD_er cs n x)
    obtain ⟨z, ns, xs, rfl, hz, lk⟩ := fld_ok e1
    obtain ⟨p, dx, fsV, vs, rfl, hp, r, _, hl⟩ := lr_ins s1.fh l1
    obtain ⟨cl, na⟩ := hx.at_ z n (List.all_eq_true.mp h3 z hz)
    obtain ⟨w, e2, rw'⟩ := zip_look r lk
    exact ⟨p, _, dx, fsV, w, rfl, hp, cl, na, by rw [hl]; exact e2, q5 F1 H1 w (Grow.refl s1.fh) rw'⟩
  | _ => exact noF h
/-- a method of one class -/
def tM (K : PySem.W.Frag) (g : Gv) (E : XK) (c m : String) (n : Nat) (a : Ex) (es : Exs) : TE := fun σ H Q => tL K g E a σ H fun x H1 => ∃ p dx fs, x = .ref p ∧ H1 p = some (.ins (He.ga K (Str.ofString c)) dx fs) ∧ fs.lookup (Str.ofString m) = none ∧
  tAs K g E es σ H1 fun vs H2 => vs.length = n ∧ spF K g (c ++ "." ++ m) (x :: vs) H2 Q E
theorem RH.then_ {α : Type} {r : R α} {ok ok' : α → Prop} {er : String → List D → Prop} (h : RH r ok er) (k : ∀ a, r = .ok a → ok a → ok' a) : RH r ok' er := RH.imp h k fun _ _ z => z
theorem tL_mono {K : PySem.W.Frag} {g : Gv} {E : XK} {x : Ex} {σ : Sx} {H : Hp} {Q Q' : VK} (h : tL K g E x σ H Q) (k : ∀ v H', Q v H' → Q' v H') : tL K g E x σ H Q' := by
  obtain ⟨B, F, S, s, q⟩ := h
  exact ⟨B, F, S, s, RH.imp q (fun d _ q F' H' v gr l => k v H' (q F' H' v gr l)) fun _ _ z => z⟩
theorem tAs_mono {K : PySem.W.Frag} {g : Gv} {E : XK} {x : Exs} {σ : Sx} {H : Hp} {Q Q' : List V → Hp → Prop} (h : tAs K g E x σ H Q) (k : ∀ v H', Q v H' → Q' v H') : tAs K g E x σ H Q' := by
  obtain ⟨B, F, S, s, q⟩ := h
  exact ⟨B, F, S, s, RH.imp q (fun d _ q F' H' v gr l r => k v H' (q F' H' v gr l r)) fun _ _ z => z⟩
theorem meth_form {o : Expr} {m : Str} {apos pos : Pos} {env : Env} {l : List Expr} (hn : noCall o = true) (hl : (apos.endLine == pos.line) = true) (hs : (l.all fun e => !isStar e) = true) (h30 : l.length < 30) : eval (.Call (.Attribute o m apos) l [] pos) env = (do
      let ov ← eval o env
      standAt apos.atName
      let (f, first) ← holding [ov] (getMethod ov m (do return (← importBound o env).getD true))
      callWith pos f first (backTo pos (starEach l env)) (backToKw pos (keywordEach [] env))) := by
  have hf : (backTo pos (starEach l env)).all (fun x => !x.1) = true := by
    have z := plain_back (e := o) (pos := pos) (env := env) hs
    rw [List.all_eq_not_any_not]
    simp only [Bool.not_not]
    rw [z]; rfl
  have hform : methodCallForm (l.length + ([] : List Keyword).length) (backTo pos (starEach l env)) (backToKw pos (keywordEach [] env)) = true := by
    unfold methodCallForm
    rw [hf]
    show (true && true && decide (l.length + 0 + 0 < 30)) = true
    simpa using h30
  have hpos : methodCallPos true o env apos pos = pure pos := by unfold methodCallPos; simp [hl]
  rw [arm_eval_Call, noCall_base hn]
  unfold methodCall
  rw [hform]
  simp only [calleeOf, if_true, hpos, pure_bind]
theorem pe_tM {X : Cx} {c : Ck} {g : Gv} {E : XK} {z m : String} {a : Ex} {es : Exs} {o : Expr} {l : List Expr} {apos pos : Pos} (hline : (apos.endLine == pos.line) = true) (h30 : l.length < 30) (hx : XOk X c g E) (h : emb c a o = true) (hn : noCall o = true) (hl : embs c es l = true) (hm : c.me.contains (z, m, l.length) = true) (i_a : SndP a) (j_es : AsP es) :
    PE X (.Call (.Attribute o (Str.ofString m) apos) l [] pos) (tM X.K g E z m l.length a es) := by
  obtain ⟨f, fd, ps, k, dvs, ds, sp, h1, h2, h3, h4, h5, h6, h7⟩ := (hx.me z m l.length hm).ex
  have pa := pe_lk hx h (i_a.go hx h).v
  have ht := meth_form (m := Str.ofString m) (apos := apos) (pos := pos) (env := X.env) (l := l) hn hline (embs_stars hl) h30
  cases l with
  | nil =>
    cases es with
    | cons _ _ => exact noF hl
    | nil =>
      refine PE.weak (pe_meth0 pa h1 h2 h6 h3 h4 h5 hx.ps ht) fun σ H Q q => ?_
      refine tL_mono q fun x H1 ⟨p, dx, fs, e1, e2, e3, e4⟩ => ⟨p, dx, fs, e1, e2, e3, ?_⟩
      obtain ⟨B, F, S, s, q⟩ := e4
      have q := q F H1 [] (Grow.refl s.fh) rfl fun _ => RpL.nil
      exact h7 [x] H1 Q E rfl q.2
  | cons x0 l =>
    cases es with
    | nil => exact noF hl
    | cons e r =>
      have st := embs_stars hl
      rw [List.all_cons] at st
      have h5' : isStar x0 = false := notE (bandE st).1
      refine PE.weak (pe_meth pa h1 h2 h6 h3 h4 h5 hx.ps (j_es.go hx hl) (star_of h5') (plain_back (e := x0) (bandE st).2) ht) fun σ H Q q => ?_
      refine tL_mono q fun x H1 ⟨p, dx, fs, e1, e2, e3, e4⟩ => ⟨p, dx, fs, e1, e2, e3, ?_⟩
      exact tAs_mono e4 fun vs H2 ⟨hv, q⟩ => h7 (x :: vs) H2 Q E (by rw [List.length_cons, hv]) q
theorem k_ev_mth {cs : List String} {a : Ex} {m : String} {es : Exs} (i_a : SndP a) (j_es : AsP es) : SndP (.mth cs a m es) := by
  intro c X g E e hx h
  unfold emb at h
  split at h
  · rename_i o f apos l pos
    obtain ⟨h1, q1⟩ := bandE h
    obtain ⟨h2', q2⟩ := bandE q1
    obtain ⟨h2, h2'⟩ := bandE h2'
    obtain ⟨hline, h30⟩ := bandE h2'
    have h30 : l.length < 30 := of_decide_eq_true h30
    obtain ⟨h3, q3⟩ := bandE q2
    obtain ⟨h4, q4⟩ := bandE q3
    obtain ⟨h5, h6⟩ := bandE q4
    have e1 : f = Str.ofString m := of_decide_eq_true h1
    subst e1
    have hh : emb c (.mth cs a m es) (.Call (.Attribute o (Str.ofString m) apos) l [] pos) = true := by
      rw [emb]
      exact h
    have pm : ∀ z, z ∈ cs → PE X (.Call (.Attribute o (Str.ofString m) apos) l [] pos) (tM X.K g E z m l.length a es) := fun z hz => pe_tM hline h30 hx h5 h2 h6 (List.all_eq_true.mp h4 z hz) i_a j_es
    have pu : PE X (.Call (.Attribute o (Str.ofString m) apos) l [] pos) (fun σ H Q => ∃ z, z ∈ cs ∧ tM X.K g E z m l.length a es σ H Q) := ⟨fun pins s σ H Q I ⟨z, hz, q⟩ => (pm z hz).run pins s σ H Q I q⟩
    refine Snd.plain hx hh rfl (PE.weak pu fun σ H Q q => ?_)
    obtain ⟨B, F, S, s, q⟩ := q
    have q : RH (evL g.Γ a S >>= fun x => clsOf cs m x >>= fun c => evsL g.Γ es S >>= fun xs => g.Γ (c ++ "." ++ m) (x :: xs) >>= fun v => kept (anyOwn es S) v) (fun val => ∀ F' H' v, Grow F F' H H' → VR X.K F' H H' val v → Q v H') (ErW g E H) := q
    cases ea : evL g.Γ a S with
    | bad => rw [ea] at q; exact q.elim
    | er cc fs =>
      rw [ea] at q
      cases cs with
      | nil => exact noF h3
      | cons z cs => exact ⟨z, List.mem_cons_self .., B, F, S, s, by rw [ea]; exact q⟩
    | ok x =>
      rw [ea] at q
      obtain ⟨z, e1, q⟩ := RH.got (RH.bind (r := clsOf cs m x) q) (clsOf_er cs m x)
      obtain ⟨ns, xs, rfl, hz, hm⟩ := cls_ok e1
      refine ⟨z, hz, B, F, S, s, ?_⟩
      rw [ea]
      intro F1 H1 v g1 l1
      obtain ⟨p, dx, fsV, vs, e2, hp, r, hlen, hl⟩ := lr_ins g1.fh l1
      refine ⟨p, dx, fsV, e2, hp, by rw [hl]; exact zip_none hm, ?_⟩
      have s1 := s.grow g1
      refine ⟨B, F1, S, s1, RH.imp (RH.bind q) (fun ds e3 q F2 H2 ws g2 l2 k2 => ?_) fun _ _ z => ErW.same g1.h z⟩
      refine ⟨by rw [← l2.len]; exact evsL_len h6 e3, ?_⟩
      have l1' : LR X.K F2 H2 (.ins z ns xs) v := l1.grow g2
      have rp : Rp X.K F2 (.ins z ns xs) v := Rp.mono g2.f _ _ (show Rp X.K F1 (.ins z ns xs) v from l1)
      refine call_end (g := g) (E := E) (own := anyOwn es S) (ds := .ins z ns xs :: ds) g2.fh ⟨v, ws, rfl, l1', l2⟩ (fun ho => RpL.cons rp (k2 ho)) (RH.imp q (fun val _ q F3 H3 w g3 r3 => q F3 H3 w ((g1.trans g2).trans g3) ((r3.back g2.h).back g1.h)) fun _ _ z => ErW.same (g1.trans g2).h z)
  · cases h
theorem newD_er (z : String) (v : Val) (c : String) (fs : List D) : newD z v ≠ .er c fs := by
  unfold newD
  split
  · exact ite_er ok_ne
  · exact bad_ne
theorem newD_ok {z : String} {v w : Val} (h : newD z v = .ok w) : ∃ ns xs, v = .d (.ins z ns xs) ∧ w = .d (.ins z ns xs) := by
  unfold newD at h
  split at h
  · rename_i c' ns xs
    by_cases hc : c' = z
    · rw [if_pos hc] at h
      cases h
      subst hc
      exact ⟨ns, xs, rfl, rfl⟩
    · rw [if_neg hc] at h; cases h
  · cases h
theorem evs_len {Γ : Fns} {S : Sg} {c : Ck} : ∀ {es : Exs} {l : List Expr} {xs : List D}, embs c es l = true → evs Γ es S = .ok xs → xs.length = l.length
  | .nil, l, xs, h, e => by
    cases l with
    | nil =>
      have e : R.ok [] = R.ok xs := e
      cases e
      rfl
    | cons _ _ => exact noF h
  | .cons a r, l, xs, h, e => by
    cases l with
    | nil => exact noF h
    | cons x l =>
      obtain ⟨h1, h2⟩ := bandE h
      obtain ⟨h2, h3⟩ := bandE h2
      obtain ⟨v, _, e⟩ := bind_ok (f := fun v : Val => evs Γ r S >>= fun xs => R.ok (v.D :: xs)) e
      obtain ⟨ys, e2, e⟩ := bind_ok e
      cases e
      rw [List.length_cons, List.length_cons, evs_len h3 e2]
theorem k_ev_mk {z : String} {es : Exs} (d_es : DsP es) : SndP (.mk z es) := by
  intro c X g E e hx h
  unfold emb at h
  split at h
  · rename_i x p l pos
    obtain ⟨h1, q1⟩ := bandE h
    obtain ⟨h2, q2⟩ := bandE q1
    obtain ⟨h3, q3⟩ := bandE q2
    obtain ⟨h4, h5⟩ := bandE q3
    have e1 : x = Str.ofString z := of_decide_eq_true h1
    subst e1
    obtain ⟨k1, k2, k3⟩ := glo_of hx h2
    have hh : emb c (.mk z es) (.Call (.Name (Str.ofString z) p) l [] pos) = true := by
      rw [emb]
      exact h
    obtain ⟨f, fd, ps, k, dvs, ds, sp, M, hm, hr, hb, hd, F, imp⟩ := (hx.mks z l.length h3).ex
    cases l with
    | nil => exact noF h4
    | cons x0 l =>
      have st := embs_stars h5
      rw [List.all_cons] at st
      refine Snd.plain hx hh rfl (PE.weak (pe_make M F hr k1 hm hb hd hx.ps (d_es.go hx h5) k2 (star_of (notE (bandE st).1)) (plain_back (e := x0) (bandE st).2)) fun σ H Q q => ?_)
      obtain ⟨B, F, S, s, q⟩ := q
      have q : RH (evs g.Γ es S >>= fun xs => (g.Γ (z ++ ".__init__") (.ins z [] [] :: xs)).noEr >>= fun v => newD z v) (fun val => ∀ F' H' v, Grow F F' H H' → VR X.K F' H H' val v → Q v H') (ErW g E H) := q
      refine ⟨B, F, S, s, RH.imp (RH.bind q) (fun xs e2 q F1 H1 vs g1 r1 => ?_) fun _ _ z => z⟩
      intro a dx ha hdx hne
      have fa : F1 a = none := g1.fh.free ha
      have vl : vs.length = l.length + 1 := by rw [← r1.len]; exact evs_len h5 e2
      refine imp (.ref a :: vs) _ _ E (by rw [List.length_cons, vl]; rfl) ?_
      have h1d : (upd (upd H1 dx (.own a)) a (.ins (He.ga X.K (Str.ofString z)) dx [])) a = some (.ins (He.ga X.K (Str.ofString z)) dx []) := upd_same
      have sm : Same F1 (upd (upd H1 dx (.own a)) a (.ins (He.ga X.K (Str.ofString z)) dx [])) := same_upd2 (same_upd2 g1.fh (g1.fh.free hdx)) fa
      obtain ⟨val, e3, q⟩ := noEr_ok q
      obtain ⟨w, e4, q⟩ := RH.got q (newD_er z val)
      obtain ⟨ns, ys, rfl, rfl⟩ := newD_ok e4
      refine ⟨F1, a, vs, .ins z [] [], xs, rfl, ⟨dx, [], [], h1d, RpL.nil, rfl, Nat.le_refl _, fun n => rfl⟩, fa, sm, r1, ?_⟩
      rw [e3]
      intro y F' H' ey gr sF oi
      cases ey
      obtain ⟨dx', fsV, vs', hp, r', hlen, _, hl⟩ := oi
      refine ⟨rfl, ?_⟩
      have f'a : F' a = none := gr.fh.free (show hid a H' a = none from if_pos rfl)
      have sF2 : Same F' (upd F' a (.ins (He.ga X.K (Str.ofString z)) dx' fsV)) := same_upd f'a
      have hH : ∀ b o, b ≠ a → H1 b = some o → (upd (upd H1 dx (.own a)) a (.ins (He.ga X.K (Str.ofString z)) dx [])) b = some o := fun b o hb e => by
        rw [upd_ne hb, upd_ne (ne_of_none e hdx)]
        exact e
      have G : Grow F1 (upd F' a (.ins (He.ga X.K (Str.ofString z)) dx' fsV)) H1 H' := by
        refine ⟨gr.f.trans sF2, fun b o e => ?_, fun b o e => ?_, fun b hb => ?_⟩
        · by_cases hba : b = a
          · subst hba
            rw [upd_same] at e
            rw [hp]; exact e
          · rw [upd_ne hba] at e
            exact sF b o e
        · have hba : b ≠ a := ne_of_none e ha
          have z1 : hid a (upd (upd H1 dx (.own a)) a (.ins (He.ga X.K (Str.ofString z)) dx [])) b = some o := by
            unfold hid
            rw [if_neg hba]
            exact hH b o hba e
          have z2 := gr.h b o z1
          unfold hid at z2
          rw [if_neg hba] at z2
          exact z2
        · by_cases hba : b = a
          · subst hba; exact .inr ha
          · rw [upd_ne hba] at hb
            rcases gr.new b hb with z1 | z1
            · exact .inl z1
            · refine .inr ?_
              cases q5 : H1 b with
              | none => rfl
              | some o =>
                unfold hid at z1
                rw [if_neg hba, hH b o hba q5] at z1
                cases z1
      exact q _ H' (.ref a) (g1.trans G) (show Rp X.K _ (.ins z ns ys) (.ref a) from by
        rw [Rp]
        exact ⟨a, dx', fsV, vs', rfl, upd_same, RpL.mono sF2 _ _ r', hlen, hl⟩)
  · cases h
theorem k_as_nil   : AsP (.nil ) := by
  intro c X g E l hx h
  cases l with
  | cons _ _ => exact noF h
  | nil =>
    refine PA.weak pa_nil fun σ H Q q => ?_
    obtain ⟨B, F, S, s, q⟩ := q
    exact q F H [] (Grow.refl s.fh) rfl fun _ => RpL.nil
theorem k_as_cons {x : Ex} {r : Exs} (i_x : SndP x) (j_r : AsP r) : AsP (.cons x r) := by
  intro c X g E l hx h
  cases l with
  | nil => exact noF h
  | cons y l =>
    obtain ⟨h1, h2⟩ := bandE h
    obtain ⟨h2, h3⟩ := bandE h2
    refine PA.weak (pa_cons (pe_arg hx h1 (i_x.go hx h1).v) (j_r.go hx h3) (star_of (notE h2))) fun σ H Q q => ?_
    obtain ⟨B, F, S, s, q⟩ := q
    have q : RH (evL g.Γ x S >>= fun y => evsL g.Γ r S >>= fun ys => R.ok (y :: ys)) (fun ds => ∀ F' H' vs, Grow F F' H H' → LRs X.K F' H' ds vs → (anyOwn (.cons x r) S = false → RpL X.K F' ds vs) → Q vs H') (ErW g E H) := q
    refine ⟨B, F, S, s, RH.imp (RH.bind q) (fun d _ q F1 H1 v g1 l1 k1 => ?_) fun _ _ z => z⟩
    refine ⟨B, F1, S, s.grow g1, RH.imp (RH.bind q) (fun ds _ q F2 H2 vs g2 l2 k2 => ?_) fun _ _ z => ErW.same g1.h z⟩
    refine q F2 H2 (v :: vs) (g1.trans g2) ⟨v, vs, rfl, l1.grow g2, l2⟩ fun ho => ?_
    have ho : (ownE x S || anyOwn r S) = false := ho
    rw [Bool.or_eq_false_iff] at ho
    exact RpL.cons (Rp.mono g2.f _ _ (k1 ho.1)) (k2 ho.2)
theorem k_ds_nil   : DsP (.nil ) := by
  intro c X g E l hx h
  cases l with
  | cons _ _ => exact noF h
  | nil =>
    refine PA.weak pa_nil fun σ H Q q => ?_
    obtain ⟨B, F, S, s, q⟩ := q
    exact q F H [] (Grow.refl s.fh) RpL.nil
theorem k_ds_cons {x : Ex} {r : Exs} (i_x : SndP x) (d_r : DsP r) : DsP (.cons x r) := by
  intro c X g E l hx h
  cases l with
  | nil => exact noF h
  | cons y l =>
    obtain ⟨h1, h2⟩ := bandE h
    obtain ⟨h2, h3⟩ := bandE h2
    refine PA.weak (pa_cons (i_x.go hx h1).v (d_r.go hx h3) (star_of (notE h2))) fun σ H Q q => ?_
    obtain ⟨B, F, S, s, q⟩ := q
    have q : RH (ev g.Γ x S >>= fun v => evs g.Γ r S >>= fun ys => R.ok (v.D :: ys)) (fun ds => ∀ F' H' vs, Grow F F' H H' → RpL X.K F' ds vs → Q vs H') (ErW g E H) := q
    refine ⟨B, F, S, s, RH.imp (RH.bind q) (fun val _ q F1 H1 v g1 r1 => ?_) fun _ _ z => z⟩
    obtain ⟨F2, g2, _, r2⟩ := r1.keep g1
    refine ⟨B, F2, S, s.grow g2, RH.imp (RH.bind q) (fun ds _ q F3 H3 vs g3 l3 => ?_) fun _ _ z => ErW.same g2.h z⟩
    exact q F3 H3 (v :: vs) (g2.trans g3) (RpL.cons (Rp.mono g3.f _ _ r2) l3)
theorem k_it_seq {a : Ex} (i_a : SndP a) : ItP (.seq a) := by
  intro c X g E tg e hx h _
  obtain ⟨h1, _⟩ := bandE h
  have p := (i_a.go hx h1).v
  refine PI.weak (pi_or (pi_list p) (pi_or (pi_tup p) (pi_str p))) fun σ H Q q => ?_
  obtain ⟨B, F, S, s, q⟩ := q
  have q : RH (ev g.Γ a S >>= fun v => v.D.seq?) (fun xs => ∀ J F' H', Grow F F' H H' → Walks X.K J F' xs → Q J H') (ErW g E H) := q
  cases ea : ev g.Γ a S with
  | bad => rw [ea] at q; exact q.elim
  | er cc fs => rw [ea] at q; exact .inl ⟨B, F, S, s, by rw [ea]; exact q⟩
  | ok val =>
    rw [ea] at q
    obtain ⟨xs, e1, q⟩ := RH.got (r := val.D.seq?) q (seq_er _)
    cases e2 : val.D with
    | lst ys =>
      rw [e2] at e1
      cases e1
      refine .inl ⟨B, F, S, s, ?_⟩
      rw [ea]
      intro F1 H1 v g1 r1
      obtain ⟨F2, g2, _, r2⟩ := r1.keep g1
      rw [e2, Rp] at r2
      obtain ⟨p, vs, rfl, e4, e3⟩ := r2
      exact ⟨p, rfl, ⟨vs, SqL.of (g2.fh _ _ e4)⟩, q _ F2 H1 g2 (walks_list e4 e3)⟩
    | scr ns =>
      rw [e2] at e1
      cases e1
      refine .inl ⟨B, F, S, s, ?_⟩
      rw [ea]
      intro F1 H1 v g1 r1
      obtain ⟨F2, g2, _, r2⟩ := r1.keep g1
      rw [e2, Rp] at r2
      obtain ⟨p, rfl, e4⟩ := r2
      exact ⟨p, rfl, ⟨_, g2.fh.seq e4⟩, q _ F2 H1 g2 (walks_scr e4)⟩
    | tup ys =>
      rw [e2] at e1
      cases e1
      refine .inr (.inl ⟨B, F, S, s, ?_⟩)
      rw [ea]
      intro F1 H1 v g1 r1
      obtain ⟨F2, g2, _, r2⟩ := r1.keep g1
      rw [e2, Rp] at r2
      obtain ⟨p, vs, rfl, e4, e3⟩ := r2
      exact ⟨p, rfl, ⟨vs, SqT.of (g2.fh _ _ e4)⟩, q _ F2 H1 g2 (walks_tup e4 e3)⟩
    | str t =>
      rw [e2] at e1
      cases e1
      refine .inr (.inr ⟨B, F, S, s, ?_⟩)
      rw [ea]
      intro F1 H1 v g1 r1
      obtain ⟨F2, g2, _, r2⟩ := r1.keep g1
      rw [e2, Rp] at r2
      exact ⟨_, r2, q _ F2 H1 g2 (walks_str t)⟩
    | _ => rw [e2] at e1; cases e1
theorem enum_er (d : D) (c : String) (fs : List D) : enumD d ≠ .er c fs := by cases d <;> first | exact ok_ne | exact bad_ne
theorem enum_ok {d : D} {xs : List D} (h : enumD d = .ok xs) : ∃ ys, d = .lst ys ∧ xs = numD 0 ys := by
  cases d <;> first | (cases h; exact ⟨_, rfl, rfl⟩) | (cases h)
theorem k_it_enum {a : Ex} (i_a : SndP a) : ItP (.enum a) := by
  intro c X g E tg e hx h ht
  cases e with
  | Call fn l kw pos =>
    cases fn with
    | Name x p =>
      match l, kw, h with
      | [l], [], h =>
        obtain ⟨h1, h2⟩ := bandE h
        obtain ⟨h2, h3⟩ := bandE h2
        obtain ⟨h3, h4⟩ := bandE h3
        obtain ⟨h4, h5⟩ := bandE h4
        have e1 : x = ("enumerate" : Str) := of_decide_eq_true h1
        subst e1
        obtain ⟨k1, k2, k3⟩ := glo_of hx h2
        have hm := hx.fr _ h3
        cases tg with
        | Tuple elts kk tpos =>
          refine PI.weak (pi_enum k1 hm (pa_cons (i_a.go hx h5).v pa_nil (star_of (notE h4))) (star_of (notE h4))) fun σ H Q q => ?_
          obtain ⟨B, F, S, s, q⟩ := q
          have q : RH (ev g.Γ a S >>= fun v => enumD v.D) (fun xs => ∀ J F' H', Grow F F' H H' → Walks X.K J F' xs → Q J H') (ErW g E H) := q
          refine ⟨B, F, S, s, RH.imp (RH.bind q) (fun val _ q F1 H1 v g1 r1 => ?_) fun _ _ z => z⟩
          obtain ⟨F2, g2, _, r2⟩ := r1.keep g1
          obtain ⟨xs, e1, q⟩ := RH.got q (enum_er _)
          obtain ⟨ys, e2, rfl⟩ := enum_ok e1
          rw [e2, Rp] at r2
          obtain ⟨p, vs, rfl, e4, e3⟩ := r2
          exact ⟨p, vs, rfl, SqL.of (g2.fh _ _ e4), q _ F2 H1 g2 (walks_enum e4 e3)⟩
        | _ => exact noF ht
      | [], _, h => exact noF h
      | _ :: _ :: _, _, h => exact noF h
      | [_], _ :: _, h => exact noF h
    | _ => exact noF h
  | _ => exact noF h
theorem k_it_rng {a : Ex} (i_a : SndP a) : ItP (.rng a) := by
  intro c X g E tg e hx h _
  cases e with
  | Call fn l kw pos =>
    cases fn with
    | Name x p =>
      match l, kw, h with
      | [l], [], h =>
        obtain ⟨h1, h2⟩ := bandE h
        obtain ⟨h2, h3⟩ := bandE h2
        obtain ⟨h3, h4⟩ := bandE h3
        obtain ⟨h4, h5⟩ := bandE h4
        have e1 : x = ("range" : Str) := of_decide_eq_true h1
        subst e1
        obtain ⟨k1, k2, k3⟩ := glo_of hx h2
        have hm := hx.fr _ h3
        refine PI.weak (pi_rangeA1 k1 hm (pa_cons (pe_lk hx h5 (i_a.go hx h5).v) pa_nil (star_of (notE h4))) (star_of (notE h4))) fun σ H Q q => ?_
        obtain ⟨B, F, S, s, q⟩ := q
        refine tL_then s q fun d F1 H1 v s1 g1 l1 q => ?_
        obtain ⟨j, e1, q⟩ := RH.got (RH.bind q) (int_er d)
        obtain rfl := int_of e1
        obtain ⟨xs, e2, q⟩ := RH.got q (rng_er _ _)
        obtain rfl := rngD_ok e2
        obtain rfl := lr_int l1
        refine ⟨j, rfl, ?_⟩
        have w := walks_rng (K := X.K) (F := F1) 0 (j - 0).toNat
        have q := q _ F1 H1 g1 w
        rw [Int.sub_zero] at q
        exact q
      | [], _, h => exact noF h
      | _ :: _ :: _, _, h => exact noF h
      | [_], _ :: _, h => exact noF h
    | _ => exact noF h
  | _ => exact noF h
theorem k_it_rng2 {a : Ex} {b : Ex} (i_a : SndP a) (i_b : SndP b) : ItP (.rng2 a b) := by
  intro c X g E tg e hx h _
  cases e with
  | Call fn l kw pos =>
    cases fn with
    | Name x p =>
      match l, kw, h with
      | [l, r], [], h =>
        obtain ⟨h1, h2⟩ := bandE h
        obtain ⟨h2, h3⟩ := bandE h2
        obtain ⟨h3, h4⟩ := bandE h3
        obtain ⟨h4, h5⟩ := bandE h4
        obtain ⟨h5, h6⟩ := bandE h5
        obtain ⟨h6, h7⟩ := bandE h6
        have e1 : x = ("range" : Str) := of_decide_eq_true h1
        subst e1
        obtain ⟨k1, k2, k3⟩ := glo_of hx h2
        have hm := hx.fr _ h3
        have s2 : starEach [r] X.env = [(false, eval r X.env)] := star_of (notE h5)
        have s1 : starEach [l, r] X.env = [(false, eval l X.env), (false, eval r X.env)] := by rw [star_of (notE h4), s2]
        refine PI.weak (pi_rangeA2 k1 hm (pa_cons (pe_lk hx h6 (i_a.go hx h6).v) (pa_cons (pe_lk hx h7 (i_b.go hx h7).v) pa_nil (star_of (notE h5))) (star_of (notE h4))) s1 s2) fun σ H Q q => ?_
        obtain ⟨B, F, S, s, q⟩ := q
        refine tL_then s q fun d F1 H1 v s1 g1 l1 q => ?_
        obtain ⟨i, e1, q⟩ := RH.got (RH.bind q) (int_er d)
        obtain rfl := int_of e1
        refine tL_then s1 q fun d F2 H2 w s2 g2 l2 q => ?_
        obtain ⟨j, e1, q⟩ := RH.got (RH.bind q) (int_er d)
        obtain rfl := int_of e1
        obtain ⟨xs, e2, q⟩ := RH.got q (rng_er _ _)
        obtain rfl := rngD_ok e2
        obtain rfl := lr_int l1
        obtain rfl := lr_int l2
        exact ⟨i, j, rfl, q _ F2 H2 (g1.trans g2) (walks_rng (K := X.K) (F := F2) i (j - i).toNat)⟩
      | [], _, h => exact noF h
      | [_], _, h => exact noF h
      | _ :: _ :: _ :: _, _, h => exact noF h
      | [_, _], _ :: _, h => exact noF h
    | _ => exact noF h
  | _ => exact noF h
theorem rng3_er (i j k : Int) (c : String) (fs : List D) : rng3D i j k ≠ .er c fs := ite_er ok_ne
theorem rng3_ok {i j c : Int} {xs : List D} (h : rng3D i j c = .ok xs) : RgC i j c (Builtin.Range.rangeSize i j c).toNat ∧ xs = (List.range (Builtin.Range.rangeSize i j c).toNat).map fun k => .int (i + (k : Nat) * c) := by
  unfold rng3D at h
  split at h
  · rename_i g
    cases h
    exact ⟨⟨g.1, g.2.1, g.2.2.1, by have := g.2.2.2; omega⟩, rfl⟩
  · cases h
theorem k_it_rng3 {a b d : Ex} (i_a : SndP a) (i_b : SndP b) (i_d : SndP d) : ItP (.rng3 a b d) := by
  intro c X g E tg e hx h _
  unfold embI at h
  split at h
  · rename_i x p l r z pos
    obtain ⟨h1, h2⟩ := bandE h
    obtain ⟨h2, h3⟩ := bandE h2
    obtain ⟨h3, h4⟩ := bandE h3
    obtain ⟨h4, h5⟩ := bandE h4
    obtain ⟨h5, h6⟩ := bandE h5
    obtain ⟨h6, h7⟩ := bandE h6
    obtain ⟨h7, h8⟩ := bandE h7
    obtain ⟨h8, h9⟩ := bandE h8
    have e1 : x = ("range" : Str) := of_decide_eq_true h1
    subst e1
    obtain ⟨k1, k2, k3⟩ := glo_of hx h2
    have hm := hx.fr _ h3
    have s3 : starEach [z] X.env = [(false, eval z X.env)] := star_of (notE h6)
    have s2 : starEach [r, z] X.env = [(false, eval r X.env), (false, eval z X.env)] := by rw [star_of (notE h5), s3]
    have s1 : starEach [l, r, z] X.env = (false, eval l X.env) :: starEach [r, z] X.env := star_of (notE h4)
    refine PI.weak (pi_range3 k1 hm (pa_cons (pe_lk hx h7 (i_a.go hx h7).v) (pa_cons (pe_lk hx h8 (i_b.go hx h8).v) (pa_cons (pe_lk hx h9 (i_d.go hx h9).v) pa_nil (star_of (notE h6))) (star_of (notE h5))) (star_of (notE h4))) s1 (by rw [s2]; rfl)) fun σ H Q q => ?_
    obtain ⟨B, F, S, s, q⟩ := q
    refine tL_then s q fun d F1 H1 v s1 g1 l1 q => ?_
    obtain ⟨i, e1, q⟩ := RH.got (RH.bind q) (int_er d)
    obtain rfl := int_of e1
    refine tL_then s1 q fun d F2 H2 w s2 g2 l2 q => ?_
    obtain ⟨j, e1, q⟩ := RH.got (RH.bind q) (int_er d)
    obtain rfl := int_of e1
    refine tL_then s2 q fun d F3 H3 u s3 g3 l3 q => ?_
    obtain ⟨k, e1, q⟩ := RH.got (RH.bind q) (int_er d)
    obtain rfl := int_of e1
    obtain ⟨xs, e2, q⟩ := RH.got q (rng3_er _ _ _)
    obtain ⟨rg, rfl⟩ := rng3_ok e2
    obtain rfl := lr_int l1
    obtain rfl := lr_int l2
    obtain rfl := lr_int l3
    exact ⟨i, j, k, _, rfl, rg, q _ F3 H3 ((g1.trans g2).trans g3) (walks_rngC (K := X.K) (F := F3) i k _)⟩
  · cases h
theorem revs_er (d : D) (c : String) (fs : List D) : revsD d ≠ .er c fs := by cases d <;> first | exact ok_ne | exact bad_ne
theorem k_it_revs {a : Ex} (i_a : SndP a) : ItP (.revs a) := by
  intro c X g E tg e hx h _
  unfold embI at h
  split at h
  · rename_i x p l pos
    obtain ⟨h1, h2⟩ := bandE h
    obtain ⟨h2, h3⟩ := bandE h2
    obtain ⟨h3, h4⟩ := bandE h3
    obtain ⟨h4, h5⟩ := bandE h4
    have e1 : x = ("reversed" : Str) := of_decide_eq_true h1
    subst e1
    obtain ⟨k1, k2, k3⟩ := glo_of hx h2
    have hm := hx.fr _ h3
    refine PI.weak (RT.pi_revA k1 hm (i_a.go hx h5).v (star_of (notE h4))) fun σ H Q q => ?_
    obtain ⟨B, F, S, s, q⟩ := q
    have q : RH (ev g.Γ a S >>= fun v => revsD v.D) (fun xs => ∀ J F' H', Grow F F' H H' → Walks X.K J F' xs → Q J H') (ErW g E H) := q
    refine ⟨B, F, S, s, RH.imp (RH.bind q) (fun val _ q F1 H1 v g1 r1 => ?_) fun _ _ z => z⟩
    obtain ⟨F2, g2, _, r2⟩ := r1.keep g1
    obtain ⟨xs, e1, q⟩ := RH.got q (revs_er _)
    cases e2 : val.D with
    | lst ys =>
      rw [e2] at e1
      cases e1
      rw [e2, Rp] at r2
      obtain ⟨p, vs, rfl, e4, e3⟩ := r2
      exact ⟨p, vs, rfl, .inl ⟨SqL.of (g2.fh _ _ e4), q _ F2 H1 g2 (walks_rev e4 e3)⟩⟩
    | tup ys =>
      rw [e2] at e1
      cases e1
      rw [e2, Rp] at r2
      obtain ⟨p, vs, rfl, e4, e3⟩ := r2
      exact ⟨p, vs, rfl, .inr ⟨SqT.of (g2.fh _ _ e4), q _ F2 H1 g2 (walks_revT e4 e3)⟩⟩
    | _ => rw [e2] at e1; cases e1
  · cases h
theorem RpL.rev {K : PySem.W.Frag} {F : Hp} : ∀ {xs : List D} {vs : List V}, RpL K F xs vs → RpL K F xs.reverse vs.reverse
  | [], _, h => by rw [RpL] at h; subst h; exact RpL.nil
  | x :: xs, vs, h => by
    rw [RpL] at h
    obtain ⟨v, r', rfl, h1, h2⟩ := h
    rw [List.reverse_cons, List.reverse_cons]
    exact (RpL.rev h2).app (RpL.cons h1 RpL.nil)
theorem revD_er (d : D) (c : String) (fs : List D) : revD d ≠ .er c fs := by cases d <;> first | exact ok_ne | exact bad_ne
theorem k_ev_rev {a : Ex} (i_a : SndP a) : SndP (.rev a) := by
  intro c X g E e hx h
  unfold emb at h
  split at h
  · rename_i l k p1 p2 p3 pos
    have hh : emb c (.rev a) (.Subscript l (.Slice none none (some (.UnaryOp .USub (.Constant (.int 1) k p1) p2)) p3) pos) = true := by
      rw [emb]
      exact h
    refine Snd.plain hx hh rfl (PE.weak (pe_revL (pe_lk hx h (i_a.go hx h).v)) fun σ H Q q => ?_)
    obtain ⟨B, F, S, s, q⟩ := q
    refine tV_look (f := fun x => revD x) s q fun x F1 H1 v s1 g1 l1 q => ?_
    obtain ⟨val, e2, q⟩ := RH.got q (revD_er x)
    cases x with
    | lst xs =>
      cases e2
      obtain ⟨p, ws, rfl, hp, r1⟩ := l1
      exact ⟨p, ws, rfl, SqL.of hp, fun z hz => endL s1.fh q rfl r1.rev z hz⟩
    | _ => cases e2
  · cases h
theorem lrgD_er (i j : Int) (c : String) (fs : List D) : lrgD i j ≠ .er c fs := ite_er ok_ne
theorem lrgD_ok {i j : Int} {v : Val} (h : lrgD i j = .ok v) : (j - i).toNat ≤ 2 ^ 24 ∧ v = .fr ((List.range (j - i).toNat).map fun k => .int (i + (k : Nat))) := by
  unfold lrgD at h
  split at h
  · rename_i z
    cases h
    exact ⟨z, rfl⟩
  · cases h
theorem rgV_rp {K : PySem.W.Frag} {F : Hp} (i : Int) : ∀ l : List Nat, RpL K F (l.map fun k => .int (i + (k : Nat))) (l.map fun k => V.int (i + (k : Nat)))
  | [] => RpL.nil
  | k :: r => RpL.cons (by rw [Rp]) (rgV_rp i r)
theorem k_ev_lrg1 {b : Ex} (i_b : SndP b) : SndP (.lrg1 b) := by
  intro c X g E e hx h
  have h0 := h
  unfold emb at h
  split at h
  · rename_i x p y p2 l q pos
    obtain ⟨h1, w1⟩ := bandE h
    obtain ⟨h2, w2⟩ := bandE w1
    obtain ⟨h3, w3⟩ := bandE w2
    obtain ⟨h4, w4⟩ := bandE w3
    obtain ⟨h5, w5⟩ := bandE w4
    obtain ⟨h6, w6⟩ := bandE w5
    obtain ⟨h7, h8⟩ := bandE w6
    have e1 : x = ("list" : Str) := of_decide_eq_true h1
    have e2 : y = ("range" : Str) := of_decide_eq_true h2
    subst e1
    subst e2
    obtain ⟨k1, _, _⟩ := glo_of hx h3
    obtain ⟨k2, _, _⟩ := glo_of hx h4
    refine Snd.plain hx h0 rfl (PE.weak (pe_listRgA hx.calm k1 (hx.fr _ h5) (prg_1 k2 (hx.fr _ h6) (pe_lk hx h8 (i_b.go hx h8).v) (star_of (notE h7))) (star_of rfl)) fun σ H Q q => ?_)
    obtain ⟨B, F, S, s, q⟩ := q
    refine tV_look (f := fun y => y.int? >>= fun j => lrgD 0 j) s q fun y F1 H1 v s1 g1 l1 q => ?_
    obtain ⟨j, e1, q⟩ := RH.got (RH.bind q) (int_er y)
    obtain rfl := int_of e1
    obtain ⟨val, e2, q⟩ := RH.got q (lrgD_er _ _)
    obtain ⟨z, rfl⟩ := lrgD_ok e2
    obtain rfl := lr_int l1
    exact ⟨j, rfl, z, fun w hw => endL s1.fh q rfl (rgV_rp 0 _) w hw⟩
  · cases h
theorem k_ev_lrg {a b : Ex} (i_a : SndP a) (i_b : SndP b) : SndP (.lrg a b) := by
  intro c X g E e hx h
  have h0 := h
  unfold emb at h
  split at h
  · rename_i x p y p2 l r q pos
    obtain ⟨h1, w1⟩ := bandE h
    obtain ⟨h2, w2⟩ := bandE w1
    obtain ⟨h3, w3⟩ := bandE w2
    obtain ⟨h4, w4⟩ := bandE w3
    obtain ⟨h5, w5⟩ := bandE w4
    obtain ⟨h6, w6⟩ := bandE w5
    obtain ⟨h7, w7⟩ := bandE w6
    obtain ⟨h8, w8⟩ := bandE w7
    obtain ⟨h9, h10⟩ := bandE w8
    have e1 : x = ("list" : Str) := of_decide_eq_true h1
    have e2 : y = ("range" : Str) := of_decide_eq_true h2
    subst e1
    subst e2
    obtain ⟨k1, _, _⟩ := glo_of hx h3
    obtain ⟨k2, _, _⟩ := glo_of hx h4
    have t2 : starEach [r] X.env = [(false, eval r X.env)] := star_of (notE h8)
    have t1 : starEach [l, r] X.env = [(false, eval l X.env), (false, eval r X.env)] := by rw [star_of (notE h7), t2]
    refine Snd.plain hx h0 rfl (PE.weak (pe_listRgA hx.calm k1 (hx.fr _ h5) (prg_2 k2 (hx.fr _ h6) (pe_lk hx h9 (i_a.go hx h9).v) (pe_lk hx h10 (i_b.go hx h10).v) (star_of (notE h7)) (star_of (notE h8)) (by rw [t2]; rfl)) (star_of rfl)) fun σ H Q q => ?_)
    obtain ⟨B, F, S, s, q⟩ := q
    refine tV_look (f := fun x => x.int? >>= fun i => evL g.Γ b S >>= fun y => y.int? >>= fun j => lrgD i j) s q fun y F1 H1 v s1 g1 l1 q => ?_
    obtain ⟨i, e1, q⟩ := RH.got (RH.bind q) (int_er y)
    obtain rfl := int_of e1
    refine tV_look (f := fun y => y.int? >>= fun j => lrgD i j) s1 q fun y F2 H2 w s2 g2 l2 q => ?_
    obtain ⟨j, e1, q⟩ := RH.got (RH.bind q) (int_er y)
    obtain rfl := int_of e1
    obtain ⟨val, e2, q⟩ := RH.got q (lrgD_er _ _)
    obtain ⟨z, rfl⟩ := lrgD_ok e2
    obtain rfl := lr_int l1
    obtain rfl := lr_int l2
    exact ⟨i, j, rfl, rfl, z, fun w hw => endL s2.fh q rfl (rgV_rp i _) w hw⟩
  · cases h
theorem few1 {v : Expr} {cpos : Pos} {env : Env} (h : isStar v = false) : ((backTo cpos (starEach [v] env)).all (fun x => !x.1) && (backToKw cpos (keywordEach [] env)).all (fun x => x.1.isSome)
      && decide ([v].length + ([] : List Keyword).length + (if ([] : List Keyword).isEmpty then 0 else 1) < 30)) = true := by
  rw [star_of h]; rfl
theorem lsI_er (d : D) (c : String) (fs : List D) : lsI d ≠ .er c fs := by
  cases d <;> first | exact bad_ne | exact mat_er fun _ => ok_ne
theorem lsI_ok {d : D} {ns : List Int} (h : lsI d = .ok ns) : ∃ xs, d = .lst xs ∧ intsOf xs = some ns := by
  cases d with
  | lst xs =>
    have h : optR (intsOf xs) R.ok = .ok ns := h
    cases e : intsOf xs with
    | none => rw [e] at h; cases h
    | some m => rw [e] at h; cases h; exact ⟨xs, rfl, e⟩
  | _ => cases h
theorem k_ev_cnt {a b : Ex} (i_a : SndP a) (i_b : SndP b) : SndP (.cnt a b) := by
  intro c X g E e hx h
  have h0 := h
  unfold emb at h
  split at h
  · rename_i o n apos l cpos
    obtain ⟨h1, w1⟩ := bandE h
    obtain ⟨h2, w2⟩ := bandE w1
    obtain ⟨h3, w3⟩ := bandE w2
    obtain ⟨h4, w4⟩ := bandE w3
    obtain ⟨h5, h6⟩ := bandE w4
    have e1 : n = ("count" : Str) := of_decide_eq_true h1
    subst e1
    have h4 := notE h4
    have hb : ∀ nm, attributeBase o nm X.env (eval o X.env) = eval o X.env := fun nm => plainO_ok h2
    refine Snd.plain hx h0 rfl (PE.weak (pe_bm PySem.F.plainAttrs_list PySem.F.slot_list_count PySem.F.type_list_count mt_lcount (pe_lk hx h5 (i_a.go hx h5).v) (pa_cons (pe_lk hx h6 (i_b.go hx h6).v) pa_nil (star_of h4)) (hb _) (few1 h4) h3 (star_of h4) rfl) fun σ H Q q => ?_)
    obtain ⟨B, F, S, s, q⟩ := q
    refine tV_look (f := fun x => lsI x >>= fun ns => evL g.Γ b S >>= fun y => y.int? >>= fun k => cntD ns k) s q fun x F1 H1 v s1 g1 l1 q => ?_
    obtain ⟨ns, e1, qn⟩ := RH.got (RH.bind q) (lsI_er x)
    clear q
    obtain ⟨xs, rfl, hn⟩ := lsI_ok e1
    obtain ⟨p, ws, rfl, hp, r1⟩ := l1
    refine ⟨.inl ⟨rfl, ws, SqL.of hp⟩, ?_⟩
    refine tV_look (f := fun y => y.int? >>= fun k => cntD ns k) s1 qn fun y F2 H2 w s2 g2 l2 q => ?_
    obtain ⟨k, e2, q⟩ := RH.got (RH.bind q) (int_er y)
    obtain rfl := int_of e2
    have q : ∀ F' H' v, Grow F2 F' H2 H' → VR X.K F' H2 H' (.d (.int (ns.count k : Nat))) v → Q v H' := q
    obtain rfl := lr_int l2
    have hp2 := g2.h _ _ hp
    rw [r1.ints hn] at hp2
    exact ⟨p, ns, k, rfl, rfl, SqL.of hp2, q F2 H2 _ (Grow.refl s2.fh) (by rfl)⟩
  · cases h
mutual
theorem s_evP : ∀ x : Ex, SndP x
  | .ite t a b => fun _ _ _ _ _ _ h => noF h
  | .var i => k_ev_var 
  | .cst d => k_ev_cst 
  | .bin o a b => k_ev_bin (s_evP a) (s_evP b)
  | .neg a => k_ev_neg (s_evP a)
  | .rev a => k_ev_rev (s_evP a)
  | .lrg1 b => k_ev_lrg1 (s_evP b)
  | .lrg a b => k_ev_lrg (s_evP a) (s_evP b)
  | .cnt a b => k_ev_cnt (s_evP a) (s_evP b)
  | .nt a => k_ev_nt (s_evP a)
  | .cmp o a b => k_ev_cmp (s_evP a) (s_evP b)
  | .chn o p a b d => k_ev_chn (s_evP a) (s_evP b) (s_evP d)
  | .and a b => k_ev_and (s_evP a) (s_evP b)
  | .or a b => k_ev_or (s_evP a) (s_evP b)
  | .tup es => k_ev_tup (s_dsP es)
  | .lst es => k_ev_lst (s_dsP es)
  | .sub a i => k_ev_sub (s_evP a) (s_evP i)
  | .slc a lo hi => k_ev_slc (s_evP a) (s_evP lo) (s_evP hi)
  | .slcL a lo => k_ev_slcL (s_evP a) (s_evP lo)
  | .slcH a hi => k_ev_slcH (s_evP a) (s_evP hi)
  | .call f es => k_ev_call (s_asP es)
  | .bi b es => k_ev_bi (s_asP es)
  | .isa a t => k_ev_isa (s_evP a)
  | .fld cs a n => k_ev_fld (s_evP a)
  | .mth cs a m es => k_ev_mth (s_evP a) (s_asP es)
  | .mk z es => k_ev_mk (s_dsP es)
  | .m1 m a b => k_ev_m1 (s_evP a) (s_evP b)
  | .lc own tg it d e => k_ev_lc (s_evP d) (s_itP it) (s_evP e)
theorem s_asP : ∀ x : Exs, AsP x
  | .nil  => k_as_nil 
  | .cons x r => k_as_cons (s_evP x) (s_asP r)
theorem s_dsP : ∀ x : Exs, DsP x
  | .nil  => k_ds_nil 
  | .cons x r => k_ds_cons (s_evP x) (s_dsP r)
theorem s_itP : ∀ x : It, ItP x
  | .seq a => k_it_seq (s_evP a)
  | .enum a => k_it_enum (s_evP a)
  | .rng a => k_it_rng (s_evP a)
  | .rng2 a b => k_it_rng2 (s_evP a) (s_evP b)
  | .rng3 a b d => k_it_rng3 (s_evP a) (s_evP b) (s_evP d)
  | .revs a => k_it_revs (s_evP a)
end
theorem s_ev (x : Ex) {c : Ck} {X : Cx} {g : Gv} {E : XK} {e : Expr} (hx : XOk X c g E) (h : emb c x e = true) : Snd X g E x e := s_evP x c X g E e hx h
theorem s_it (x : It) {c : Ck} {X : Cx} {g : Gv} {E : XK} {tg e : Expr} (hx : XOk X c g E) (h : embI c x e = true) (t : tgOk x tg = true) : PI X tg e (tI X.K g E x) := s_itP x c X g E tg e hx h t
end
end Fv
end
section
set_option maxHeartbeats 400000
namespace Fv
open PySem PySem.Spec PyProof.Rows L2

def swB (c : Ck) (x : Str) (py : Pos) : Expr → Bool
  | .ListComp _ _ scope pos => decide (c.sc.names.lookup x = some .cell) || (match c.sc.kind with | .function => true | _ => false) && (decide (c.sc.names.lookup x = some .local) && ((py.line == pos.line) && !(scope.names.any fun (n, k) => n == x && (k == .local || k == .cell))))
  | .SetComp _ _ _ _ => false
  | .DictComp _ _ _ _ _ => false
  | _ => true
/-- no comprehension, no tuple -/
def noDisp : Expr → Bool
  | .ListComp _ _ _ _ => false
  | .SetComp _ _ _ _ => false
  | .DictComp _ _ _ _ _ => false
  | .Tuple _ _ _ => false
  | _ => true
mutual
def embS (c : Ck) : Sm → Stmt → Bool
  | .set i e, s => match s with
    | .Assign [.Name x py] v _ => decide (c.N[i]? = some x) && (locB c.ts x && (swB c x py v && emb c e v))
    | _ => false
  | .setT is e, s => match s with
    | .Assign [t] v _ => embT c (.tup is) t && (noDisp v && emb c e v)
    | _ => false
  | .aug i o e, s => match s with
    | .AugAssign (.Name x _) op v _ => decide (c.N[i]? = some x) && (locB c.ts x && (decide (op = o.op) && emb c e v))
    | _ => false
  | .app i e, s => match s with
    | .Expr (.Call (.Attribute (.Name x p) n apos) [v] [] cpos) _ => emb c (.var i) (.Name x p) && (decide (n = ("append" : Str)) && ((apos.endLine == cpos.line) && (!isStar v && emb c e v)))
    | _ => false
  | .ext i e, s => match s with
    | .Expr (.Call (.Attribute (.Name x p) n apos) [v] [] cpos) _ => emb c (.var i) (.Name x p) && (decide (n = ("extend" : Str)) && ((apos.endLine == cpos.line) && (!isStar v && emb c e v)))
    | _ => false
  | .mov i j, s => match s with
    | .Assign [.Name x py] (.Name y p) _ => decide (c.N[i]? = some x) && (locB c.ts x && emb c (.var j) (.Name y p))
    | _ => false
  | .put i k e, s => match s with
    | .Assign [.Subscript (.Name x p) ix _] v _ => emb c (.var i) (.Name x p) && (noDisp v && (emb c k ix && emb c e v))
    | _ => false
  | .ifs t a b, s => match s with
    | .If z l r _ => emb c t z && (embSs c a l && embSs c b r)
    | _ => false
  | .whl t b, s => match s with
    | .While z l [] _ => emb c t z && embSs c b l
    | _ => false
  | .for_ tg it b, s => match s with
    | .For t i l [] _ => embT c tg t && ((embI c it i && tgOk it t) && embSs c b l)
    | _ => false
  | .ret e, s => match s with
    | .Return (some v) _ => emb c e v
    | .Return none _ => (match e with | .cst .non => true | _ => false)
    | _ => false
  | .exp e, s => match s with
    | .Expr v _ => noDisp v && emb c e v
    | _ => false
  | .brk, s => match s with
    | .Break _ => true
    | _ => false
  | .cnt, s => match s with
    | .Continue _ => true
    | _ => false
  | .pas, s => match s with
    | .Pass _ => true
    | _ => false
  | .nev, _ => true
  | .fst _ _ _, _ => false
  | .ini _ _, _ => false
def embSs (c : Ck) : Sms → List Stmt → Bool
  | .nil, l => match l with
    | [] => true
    | _ => false
  | .cons s r, l => match l with
    | x :: l => embS c s x && embSs c r l
    | _ => false
  | .frz _ r, l => embSs c r l
end

def OH (K : PySem.W.Frag) (g : Gv) (E : XK) (F0 B : Hp) (D : Ends) (o : Out) : Prop := match o with
  | .nx S => ∀ F H σ, Grow F0 F B H → StOk K B F H σ S → D.nx σ H
  | .rt val => ∀ F H v, Grow F0 F B H → VR K F B H val v → D.rt v H
  | .bk S => ∀ F H σ, Grow F0 F B H → StOk K B F H σ S → D.bk σ H
  | .ct S => ∀ F H σ, Grow F0 F B H → StOk K B F H σ S → D.ct σ H
  | .er c fs => ErW g E B c fs
  | .bad => False
def tS (K : PySem.W.Frag) (g : Gv) (E : XK) (o : Sg → Out) : TS := fun D σ H => ∃ F0 B F S, Grow F0 F B H ∧ StOk K B F H σ S ∧ OH K g E F0 B D (o S)
theorem OH.of {K : PySem.W.Frag} {g : Gv} {E : XK} {F0 B : Hp} {D : Ends} {α : Type} {r : R α} {f : α → Out} (h : OH K g E F0 B D (Out.of r f)) : RH r (fun a => OH K g E F0 B D (f a)) (ErW g E B) := by
  cases r <;> exact h
theorem PS.weak {X : Cx} {e : Stmt} {t t' : TS} (h : PS X e t) (w : ∀ D σ H, t' D σ H → t D σ H) : PS X e t' := ⟨fun pins s σ H D I q => h.run pins s σ H D I (w D σ H q)⟩
theorem PSs.weak {X : Cx} {e : List Stmt} {t t' : TS} (h : PSs X e t) (w : ∀ D σ H, t' D σ H → t D σ H) : PSs X e t' := ⟨fun pins s σ H D I q => h.run pins s σ H D I (w D σ H q)⟩
structure YOk (X : Cx) (c : Ck) (g : Gv) (E : XK) : Prop where
  x : XOk X c g E
  po : PassesOwn (model X.prog X.w) X.A X.env X.xe
theorem Grow.wr {F0 F B H : Hp} {p : Addr} {o : HO} (g : Grow F0 F B H) (fp : F p = none) (bp : B p = none) : Grow F0 F B (upd H p o) := ⟨g.f, same_upd2 g.fh fp, same_upd2 g.h bp, g.new⟩
theorem Grow.thru {F0 F1 F B H H1 : Hp} (a : Grow F0 F1 B H1) (b : Grow F1 F B H) : Grow F0 F B H := ⟨a.f.trans b.f, b.fh, b.h, fun p hp => (b.new p hp).elim (a.new p) .inr⟩
theorem Grow.cut {F0 F1 F B H : Hp} (a : Grow F0 F B H) (s1 : Same F0 F1) (s2 : Same F1 F) : Grow F1 F B H := ⟨s2, a.fh, a.h, fun p hp => (a.new p hp).elim (fun z => .inl (by
  cases q : F0 p with
  | none => exact absurd q z
  | some o => rw [s1 _ _ q]; exact fun y => nomatch y)) .inr⟩
theorem ixN_of {n : Nat} {j : Int} {k : Nat} (h : ixOf n j = some k) : ixN n j = some k := by rw [ixN_eq]; exact h
theorem plainAsg {c : Ck} {i : Ex} {k o : Expr} {pos : Pos} {env : Env} (h : emb c i k = true) : ∀ v, assign (.Subscript o k pos) env v = (do
      let ov ← holding [v] (eval o env)
      let iv ← holding [v, ov] (eval k env)
      standAt pos
      holding [v, ov, iv] (setItem ov iv v)
      release [v, ov, iv] []) := by
  intro v
  cases k <;> first | rfl | (cases i <;> exact noF h)
theorem setAll_er : ∀ (is : List Nat) (xs : List D) (S : Sg) (c : String) (fs : List D), setAll is xs S ≠ .er c fs
  | [], [], _, _, _ => ok_ne
  | [], _ :: _, _, _, _ => bad_ne
  | _ :: _, [], _, _, _ => bad_ne
  | _ :: is, _ :: xs, _, c, fs => setAll_er is xs _ c fs
theorem tgset_er (tg : Tg) (d : D) (S : Sg) (c : String) (fs : List D) : tg.set d S ≠ .er c fs := by
  cases tg with
  | one j => exact ok_ne
  | tup is => cases d <;> first | exact bad_ne | exact setAll_er is _ _ _ _
section
variable {X : Cx} {c : Ck} {g : Gv} {E : XK}
theorem pe_nm {i : Nat} {e : Expr} (hx : XOk X c g E) (h : emb c (.var i) e = true) : PE X e (tVar i) := by
  cases e with
  | Name x pos =>
    rw [emb] at h
    simp only [Bool.and_eq_true, Bool.not_eq_true', decide_eq_true_eq] at h
    obtain ⟨h1, h2, h3, h4⟩ := h
    exact pe_var (i := i) (by rw [hx.n]; exact h1) (by rw [hx.sc]; exact vis_of h2) h3 h4
  | _ => exact noF h
theorem sw_false {e : Expr} {t : Option Expr} {l : Nat} {env : Env} (h : noDisp e = true) : swapsWith e t l env = pure false := by
  cases e <;> first | rfl | exact noF h
theorem swS_false {e t : Expr} {l : Nat} {env : Env} (h : noDisp e = true) : swapsWithSole [t] e l env = pure false := by
  cases e <;> first | rfl | exact noF h
theorem sws_false {e t : Expr} {env : Env} (h : noDisp e = true) : swappedStores [t] e env = pure none := by
  cases e <;> first | (cases t <;> rfl) | exact noF h
/-- a comprehension, stored in a name -/
theorem ps_lcset {own : List (Str × Nat)} {tg : Tg} {it : It} {d e : Ex} {x : Str} {py : Pos} {l : Expr} {gens : List Comprehension} {scope : Scope} {pos spos : Pos} {i : Nat} (hx : XOk X c g E) (h : emb c (.lc own tg it d e) (.ListComp l gens scope pos) = true)
    (hi : X.N[i]? = some x) (hl : X.env.scope.names.lookup x = some .local) (hsw : ∀ gens, swapsWith (.ListComp l gens scope pos) (some (.Name x py)) spos.line X.env = pure true) :
    PS X (.Assign [.Name x py] (.ListComp l gens scope pos) spos) (tAsg (tV X.K g E (.lc own tg it d e)) (gName i)) := by
  match gens, h with
  | [⟨t, i, ifs, n⟩], h =>
    obtain rfl := async0 h
    obtain ⟨h1, h2⟩ := bandE h
    obtain ⟨h2', h2⟩ := bandE h2
    obtain ⟨h2, h3⟩ := bandE h2
    obtain ⟨h2, hT⟩ := bandE h2
    obtain ⟨h3, h4⟩ := bandE h3
    obtain ⟨h4, h5⟩ := bandE h4
    have ok : BlkOk X.N X.env.scope scope own := by rw [hx.n, hx.sc]; exact blkOk_by h1
    have ht : ∀ (s : Shared) (H : Hp) (C : Addr) (cl : List (Str × Addr)) (fp : List Addr), PTs (X.blk s H scope (compEnvC scope cl C X.env) fp) ifs (tT X.K g E0 d) := fun s H C cl fp => by
      match ifs, h5 with
      | [], h5 =>
        have e1 : d = .cst (.bl true) := by
          match d, h5 with
          | .cst (.bl true), _ => rfl
        subst e1
        refine PTs.weak pts_nil fun σ H Q q => ?_
        obtain ⟨B, F, S, s, q⟩ := q
        exact q F H (Grow.refl s.fh)
      | [z], h5 => exact pts_one (s_ev d (hx.blk ok s H C cl fp) h5).t
    refine PS.weak (ps_setLc hx.calm hx.nd hi hl (hsw _) (s_it it hx h2 hT) ok (fun s H C cl fp => pg_tg (hx.blk ok s H C cl fp) h3) ht (fun s H C cl fp => (s_ev e (hx.blk ok s H C cl fp) h4).v) (embI_noset h2)) fun D σ H q => lc_ok h2' q
  | [], h => exact noF h
  | _ :: _ :: _, h => exact (comp2 h).elim
theorem sw_cell {elt : Expr} {gs : List Comprehension} {scope : Scope} {pos py : Pos} {y : Str} {l : Nat} {env : Env} (hy : env.scope.names.lookup y = some .cell) : swapsWith (.ListComp elt gs scope pos) (some (.Name y py)) l env = pure false := by
  have ky : env.kindOf y = some .cell := hy
  unfold swapsWith
  simp only [ky]
  have e : ((some NameKind.cell : Option NameKind) == some .local) = false := rfl
  simp [e]
/-- a name gets a value -/
theorem ps_setV {i : Nat} {e : Ex} {x : Str} {py : Pos} {v : Expr} {spos : Pos} (hx : XOk X c g E) (h1 : c.N[i]? = some x) (h2 : locB c.ts x = true) (h3 : swB c x py v = true) (h4 : emb c e v = true) :
    PS X (.Assign [.Name x py] v spos) (tAsg (tV X.K g E e) (gName i)) := by
  have hn : X.N[i]? = some x := by rw [hx.n]; exact h1
  obtain ⟨k1, k2⟩ := hx.ts x (loc_of h2)
  cases v with
  | ListComp l gens scope pos =>
    rcases Bool.or_eq_true_iff.mp h3 with h3 | h3
    · exact ps_set hx.nd hn k1 (s_ev e hx h4).v (sw_cell (by rw [hx.sc]; exact of_decide_eq_true h3)) k2
    obtain ⟨q1, q2⟩ := bandE h3
    obtain ⟨q2, q3⟩ := bandE q2
    obtain ⟨q3, q4⟩ := bandE q3
    have kf : X.env.scope.kind = .function := by
      rw [hx.sc]
      cases q : c.sc.kind <;> rw [q] at q1 <;> first | rfl | cases q1
    have kl : X.env.scope.names.lookup x = some .local := by
      rw [hx.sc]
      exact of_decide_eq_true q2
    cases e with
    | lc own tg it d e => exact ps_lcset hx h4 hn kl fun gens => sw_true kf kl q3 (notE q4)
    | _ => exact noF h4
  | SetComp _ _ _ _ => exact noF h3
  | DictComp _ _ _ _ _ => exact noF h3
  | _ => exact ps_set hx.nd hn k1 (s_ev e hx h4).v rfl k2
theorem augD_er (o : BOp) (a b : D) (c : String) (fs : List D) : augD o a b ≠ .er c fs := by
  cases o <;> cases a <;> cases b <;> first | exact ok_ne | exact bad_ne
theorem augD_ok {o : BOp} {a b d : D} (h : augD o a b = .ok d) : ∃ i j : Int, a = .int i ∧ b = .int j ∧ ((o = .add ∧ d = .int (i + j)) ∨ (o = .sub ∧ d = .int (i - j))) := by
  cases o <;> cases a <;> cases b <;> first | (cases h; done) | skip
  · cases h; exact ⟨_, _, rfl, rfl, .inl ⟨rfl, rfl⟩⟩
  · cases h; exact ⟨_, _, rfl, rfl, .inr ⟨rfl, rfl⟩⟩
theorem inv_set {c : Ck} {i : Nat} {e : Ex} {s : Stmt} (h : embS c (.set i e) s = true) : ∃ x py v pos, s = .Assign [.Name x py] v pos ∧ (decide (c.N[i]? = some x) && (locB c.ts x && (swB c x py v && emb c e v))) = true := by
  unfold embS at h
  split at h
  · exact ⟨_, _, _, _, rfl, h⟩
  · cases h
theorem inv_setT {c : Ck} {is : List Nat} {e : Ex} {s : Stmt} (h : embS c (.setT is e) s = true) : ∃ t v pos, s = .Assign [t] v pos ∧ (embT c (.tup is) t && (noDisp v && emb c e v)) = true := by
  unfold embS at h
  split at h
  · exact ⟨_, _, _, rfl, h⟩
  · cases h
theorem inv_aug {c : Ck} {i : Nat} {o : BOp} {e : Ex} {s : Stmt} (h : embS c (.aug i o e) s = true) : ∃ x p op v pos, s = .AugAssign (.Name x p) op v pos ∧ (decide (c.N[i]? = some x) && (locB c.ts x && (decide (op = o.op) && emb c e v))) = true := by
  unfold embS at h
  split at h
  · exact ⟨_, _, _, _, _, rfl, h⟩
  · cases h
theorem inv_app {c : Ck} {i : Nat} {e : Ex} {s : Stmt} (h : embS c (.app i e) s = true) : ∃ x p n apos v cpos pos, s = .Expr (.Call (.Attribute (.Name x p) n apos) [v] [] cpos) pos ∧ (emb c (.var i) (.Name x p) && (decide (n = ("append" : Str)) && ((apos.endLine == cpos.line) && (!isStar v && emb c e v)))) = true := by
  unfold embS at h
  split at h
  · exact ⟨_, _, _, _, _, _, _, rfl, h⟩
  · cases h
theorem inv_ext {c : Ck} {i : Nat} {e : Ex} {s : Stmt} (h : embS c (.ext i e) s = true) : ∃ x p n apos v cpos pos, s = .Expr (.Call (.Attribute (.Name x p) n apos) [v] [] cpos) pos ∧ (emb c (.var i) (.Name x p) && (decide (n = ("extend" : Str)) && ((apos.endLine == cpos.line) && (!isStar v && emb c e v)))) = true := by
  unfold embS at h
  split at h
  · exact ⟨_, _, _, _, _, _, _, rfl, h⟩
  · cases h
theorem inv_mov {c : Ck} {i j : Nat} {s : Stmt} (h : embS c (.mov i j) s = true) : ∃ x py y p pos, s = .Assign [.Name x py] (.Name y p) pos ∧ (decide (c.N[i]? = some x) && (locB c.ts x && emb c (.var j) (.Name y p))) = true := by
  unfold embS at h
  split at h
  · exact ⟨_, _, _, _, _, rfl, h⟩
  · cases h
theorem inv_put {c : Ck} {i : Nat} {k e : Ex} {s : Stmt} (h : embS c (.put i k e) s = true) : ∃ x p ix tp v pos, s = .Assign [.Subscript (.Name x p) ix tp] v pos ∧ (emb c (.var i) (.Name x p) && (noDisp v && (emb c k ix && emb c e v))) = true := by
  unfold embS at h
  split at h
  · exact ⟨_, _, _, _, _, _, rfl, h⟩
  · cases h
theorem inv_ifs {c : Ck} {t : Ex} {a b : Sms} {s : Stmt} (h : embS c (.ifs t a b) s = true) : ∃ z l r pos, s = .If z l r pos ∧ (emb c t z && (embSs c a l && embSs c b r)) = true := by
  unfold embS at h
  split at h
  · exact ⟨_, _, _, _, rfl, h⟩
  · cases h
theorem inv_whl {c : Ck} {t : Ex} {b : Sms} {s : Stmt} (h : embS c (.whl t b) s = true) : ∃ z l pos, s = .While z l [] pos ∧ (emb c t z && embSs c b l) = true := by
  unfold embS at h
  split at h
  · exact ⟨_, _, _, rfl, h⟩
  · cases h
theorem inv_for_ {c : Ck} {tg : Tg} {it : It} {b : Sms} {s : Stmt} (h : embS c (.for_ tg it b) s = true) : ∃ t i l pos, s = .For t i l [] pos ∧ (embT c tg t && ((embI c it i && tgOk it t) && embSs c b l)) = true := by
  unfold embS at h
  split at h
  · exact ⟨_, _, _, _, rfl, h⟩
  · cases h
theorem inv_exp {c : Ck} {e : Ex} {s : Stmt} (h : embS c (.exp e) s = true) : ∃ v pos, s = .Expr v pos ∧ (noDisp v && emb c e v) = true := by
  unfold embS at h
  split at h
  · exact ⟨_, _, rfl, h⟩
  · cases h
theorem inv_brk {c : Ck}  {s : Stmt} (h : embS c (.brk ) s = true) : ∃ pos, s = .Break pos ∧ True := by
  unfold embS at h
  split at h
  · exact ⟨_, rfl, trivial⟩
  · cases h
theorem inv_cnt {c : Ck}  {s : Stmt} (h : embS c (.cnt ) s = true) : ∃ pos, s = .Continue pos ∧ True := by
  unfold embS at h
  split at h
  · exact ⟨_, rfl, trivial⟩
  · cases h
theorem inv_pas {c : Ck}  {s : Stmt} (h : embS c (.pas ) s = true) : ∃ pos, s = .Pass pos ∧ True := by
  unfold embS at h
  split at h
  · exact ⟨_, rfl, trivial⟩
  · cases h
theorem inv_ret {c : Ck} {e : Ex} {s : Stmt} (h : embS c (.ret e) s = true) : (∃ v pos, s = .Return (some v) pos ∧ emb c e v = true) ∨ (∃ pos, s = .Return none pos ∧ e = .cst .non) := by
  unfold embS at h
  split at h
  · exact .inl ⟨_, _, rfl, h⟩
  · split at h
    · exact .inr ⟨_, rfl, rfl⟩
    · cases h
  · cases h
theorem inv_cons {c : Ck} {x : Sm} {r : Sms} {s : List Stmt} (h : embSs c (.cons x r) s = true) : ∃ y l, s = y :: l ∧ (embS c x y && embSs c r l) = true := by
  unfold embSs at h
  split at h
  · exact ⟨_, _, rfl, h⟩
  · cases h
theorem inv_nil {c : Ck} {s : List Stmt} (h : embSs c .nil s = true) : s = [] := by
  unfold embSs at h
  split at h
  · rfl
  · cases h
def SmP (x : Sm) : Prop := ∀ (c : Ck) (X : Cx) (g : Gv) (E : XK) (s : Stmt), YOk X c g E → embS c x s = true → PS X s (tS X.K g E (exe g.Γ x))
def SmsP (x : Sms) : Prop := ∀ (c : Ck) (X : Cx) (g : Gv) (E : XK) (s : List Stmt), YOk X c g E → embSs c x s = true → PSs X s (tS X.K g E (exes g.Γ x))
theorem SmP.go {x : Sm} (h : SmP x) {c : Ck} {X : Cx} {g : Gv} {E : XK} {e : Stmt} (hx : YOk X c g E) (k : embS c x e = true) : PS X e (tS X.K g E (exe g.Γ x)) := h c X g E e hx k
theorem SmsP.go {x : Sms} (h : SmsP x) {c : Ck} {X : Cx} {g : Gv} {E : XK} {e : List Stmt} (hx : YOk X c g E) (k : embSs c x e = true) : PSs X e (tS X.K g E (exes g.Γ x)) := h c X g E e hx k
theorem k_sm_set {i : Nat} {e : Ex}  : SmP (.set i e) := by
  intro c X g E s hy h
  have hx := hy.x
  obtain ⟨x, py, v, pos, rfl, h⟩ := inv_set h
  obtain ⟨h1, h2⟩ := bandE h
  obtain ⟨h2, h3⟩ := bandE h2
  obtain ⟨h3, h4⟩ := bandE h3
  refine PS.weak (ps_setV hx (of_decide_eq_true h1) h2 h3 h4) fun D σ H q => ?_
  obtain ⟨F0, B, F, S, g0, st, q⟩ := q
  exact ⟨B, F, S, st, RH.imp (OH.of q) (fun val _ q F' H' v gr r => q F' H' _ (g0.trans gr) (st.set (H1 := H) gr r)) fun _ _ z => ErW.same st.bh z⟩
theorem k_sm_setT {is : List Nat} {e : Ex}  : SmP (.setT is e) := by
  intro c X g E s hy h
  have hx := hy.x
  obtain ⟨t, v, pos, rfl, h⟩ := inv_setT h
  obtain ⟨h1, h2⟩ := bandE h
  obtain ⟨h2, h3⟩ := bandE h2
  refine PS.weak (ps_asg (s_ev e hx h3).v (pg_tg hx h1) (swS_false h2) (sws_false h2) (by cases t <;> first | rfl | exact noF h1)) fun D σ H q => ?_
  obtain ⟨F0, B, F, S, g0, st, q⟩ := q
  refine ⟨B, F, S, st, RH.imp (OH.of q) (fun val _ q F' H' v gr r => ?_) fun _ _ z => ErW.same st.bh z⟩
  obtain ⟨F2, g2, _, r2⟩ := r.keep gr
  obtain ⟨S1, e1, q⟩ := RH.got (OH.of q) (tgset_er _ _ _)
  exact ⟨B, F2, S, val.D, S1, st.grow g2, r2, e1, fun σ' s' _ => q F2 H' σ' (g0.trans g2) s'⟩
theorem k_sm_aug {i : Nat} {o : BOp} {e : Ex}  : SmP (.aug i o e) := by
  intro c X g E s hy h
  have hx := hy.x
  obtain ⟨x, p, op, v, pos, rfl, h⟩ := inv_aug h
  obtain ⟨h1, q2⟩ := bandE h
  obtain ⟨h2, q3⟩ := bandE q2
  obtain ⟨h3, h4⟩ := bandE q3
  have hn : X.N[i]? = some x := by rw [hx.n]; exact of_decide_eq_true h1
  have e1 : op = o.op := of_decide_eq_true h3
  subst e1
  obtain ⟨k1, k2⟩ := hx.ts x (loc_of h2)
  have pv := pe_lk hx h4 (s_ev e hx h4).v
  have main : ∀ (f : Int → Int → Int), (∀ i j d, augD o (.int i) (.int j) = .ok d → d = .int (f i j)) → ∀ D σ H, tS X.K g E (exe g.Γ (.aug i o e)) D σ H → tAug i (tL X.K g E e) (ipI f) D σ H := by
    intro f hf D σ H q
    obtain ⟨F0, B, F, S, g0, st, q⟩ := q
    have q : OH X.K g E F0 B D (Out.of (S.get i) fun x => Out.of (evL g.Γ e S) fun y => Out.of (augD o x y) fun v => .nx (S.set i (.fz v))) := q
    obtain ⟨a, e2, q⟩ := RH.got (OH.of q) (get_er S i)
    have e2 : S[i]? = some (.fz a) := by
      unfold Sg.get at e2
      split at e2
      · rename_i e3; cases e2; exact e3
      · cases e2
    obtain ⟨v, e3, r⟩ := st.fz i a e2
    refine ⟨v, e3, B, F, S, st, RH.imp (OH.of q) (fun b _ q F' H' w gr r2 => ?_) fun _ _ z => ErW.same st.bh z⟩
    obtain ⟨d, e4, q⟩ := RH.got (OH.of q) (augD_er o a b)
    obtain ⟨i', j', rfl, rfl, _⟩ := augD_ok e4
    obtain rfl := hf _ _ _ e4
    refine ⟨i', j', r, lr_int r2, q F' H' _ (g0.trans gr) ?_⟩
    exact StOk.set (val := .d (.int (f i' j'))) (H1 := H) st gr (show Rp X.K F' (.int (f i' j')) (.int (f i' j')) from rp_int)
  cases o with
  | add => exact PS.weak (ps_aug hx.nd hn k1 pv ip_add k2) (main _ fun i j d h => by cases h; rfl)
  | sub => exact PS.weak (ps_aug hx.nd hn k1 pv ip_sub k2) (main _ fun i j d h => by cases h; rfl)
  | _ =>
    refine PS.weak (ps_aug hx.nd hn k1 pv (ti := fun _ _ _ _ => False) (fun _ _ _ _ _ _ _ _ _ _ _ _ z => z.elim) k2) fun D σ H q => ?_
    obtain ⟨F0, B, F, S, g0, st, q⟩ := q
    obtain ⟨a, e2, q⟩ := RH.got (OH.of (r := S.get i) q) (get_er S i)
    have e2 : S[i]? = some (.fz a) := by
      unfold Sg.get at e2
      split at e2
      · rename_i e3; cases e2; exact e3
      · cases e2
    obtain ⟨v, e3, r⟩ := st.fz i a e2
    refine ⟨v, e3, B, F, S, st, RH.imp (OH.of q) (fun b _ q F' H' w gr r2 => ?_) fun _ _ z => ErW.same st.bh z⟩
    obtain ⟨d, e4, q⟩ := RH.got (OH.of q) (augD_er _ a b)
    cases e4
theorem k_sm_app {i : Nat} {e : Ex}  : SmP (.app i e) := by
  intro c X g E s hy h
  have hx := hy.x
  obtain ⟨x, p, n, apos, v, cpos, pos, rfl, h⟩ := inv_app h
  obtain ⟨h1, h2⟩ := bandE h
  obtain ⟨h2, h3⟩ := bandE h2
  obtain ⟨h3, h4⟩ := bandE h3
  obtain ⟨h4, h5⟩ := bandE h4
  have e1 : n = ("append" : Str) := of_decide_eq_true h2
  subst e1
  have h4 := notE h4
  refine PS.weak (ps_expr (pe_bm PySem.F.plainAttrs_list PySem.F.slot_list_append PySem.F.type_list_append mt_append (pe_nm hx h1) (pa_cons (s_ev e hx h5).v pa_nil (star_of h4)) rfl (few1 h4) h3 (star_of h4) rfl) rfl) fun D σ H q => ?_
  obtain ⟨F0, B, F, S, g0, st, q⟩ := q
  have q : OH X.K g E F0 B D (match S[i]? with
    | some (.own xs) => Out.of (ev g.Γ e S) fun v => if xs.length < LINE then .nx (S.set i (.own (xs ++ [v.D]))) else .bad
    | _ => .bad) := q
  split at q
  · rename_i xs eo
    obtain ⟨p, vs, e1, hp, fp, bp, r⟩ := st.own i xs eo
    refine ⟨.ref p, e1, .inl ⟨rfl, vs, SqL.of hp⟩, B, F, S, st, RH.imp (OH.of q) (fun val _ q F' H' v gr rv => ?_) fun _ _ z => ErW.same st.bh z⟩
    obtain ⟨F2, g2, _, r2⟩ := rv.keep gr
    by_cases hz : xs.length < LINE
    · rw [if_pos hz] at q
      have s2 := st.grow g2
      have f2 : F2 p = none := g2.non fp (by rw [hp]; exact fun z => nomatch z)
      refine ⟨p, vs, v, rfl, rfl, g2.h _ _ hp, by rw [← r.len, ← line_eq]; exact hz, ?_⟩
      exact q F2 _ σ ((g0.trans g2).wr f2 bp) (s2.wr eo e1 (g2.h _ _ hp) ((RpL.mono g2.f _ _ r).app (RpL.cons r2 RpL.nil)))
    · rw [if_neg hz] at q
      exact q.elim
  · exact q.elim
theorem k_sm_ext {i : Nat} {e : Ex}  : SmP (.ext i e) := by
  intro c X g E s hy h
  have hx := hy.x
  obtain ⟨x, p, n, apos, v, cpos, pos, rfl, h⟩ := inv_ext h
  obtain ⟨h1, h2⟩ := bandE h
  obtain ⟨h2, h3⟩ := bandE h2
  obtain ⟨h3, h4⟩ := bandE h3
  obtain ⟨h4, h5⟩ := bandE h4
  have e1 : n = ("extend" : Str) := of_decide_eq_true h2
  subst e1
  have h4 := notE h4
  refine PS.weak (ps_expr (pe_bm PySem.F.plainAttrs_list PySem.F.slot_list_extend PySem.F.type_list_extend mt_extend (pe_nm hx h1) (pa_cons (pe_lk hx h5 (s_ev e hx h5).v) pa_nil (star_of h4)) rfl (few1 h4) h3 (star_of h4) rfl) rfl) fun D σ H q => ?_
  obtain ⟨F0, B, F, S, g0, st, q⟩ := q
  have q : OH X.K g E F0 B D (match S[i]? with
    | some (.own xs) => Out.of (evL g.Γ e S) fun y => match y with
      | .lst zs => if xs.length + zs.length ≤ LINE then .nx (S.set i (.own (xs ++ zs))) else .bad
      | _ => .bad
    | _ => .bad) := q
  split at q
  · rename_i xs eo
    obtain ⟨p, vs, e1, hp, fp, bp, r⟩ := st.own i xs eo
    refine ⟨.ref p, e1, .inl ⟨rfl, vs, SqL.of hp⟩, B, F, S, st, RH.imp (OH.of q) (fun d _ q F2 H' v g2 lv => ?_) fun _ _ z => ErW.same st.bh z⟩
    cases d with
    | lst zs =>
      have q : OH X.K g E F0 B D (if xs.length + zs.length ≤ LINE then .nx (S.set i (.own (xs ++ zs))) else .bad) := q
      by_cases hz : xs.length + zs.length ≤ LINE
      · rw [if_pos hz] at q
        obtain ⟨b, ws, rfl, hb, r2⟩ := lv
        have s2 := st.grow g2
        have f2 : F2 p = none := g2.non fp (by rw [hp]; exact fun z => nomatch z)
        refine ⟨p, b, vs, ws, rfl, rfl, g2.h _ _ hp, hb, by rw [← r.len, ← r2.len, ← line_eq]; exact hz, ?_⟩
        exact q F2 _ σ ((g0.trans g2).wr f2 bp) (s2.wr eo e1 (g2.h _ _ hp) ((RpL.mono g2.f _ _ r).app r2))
      · rw [if_neg hz] at q
        exact q.elim
    | _ => exact q.elim
  · exact q.elim
theorem k_sm_mov {i j : Nat} : SmP (.mov i j) := by
  intro c X g E s hy h
  have hx := hy.x
  obtain ⟨x, py, y, p, pos, rfl, h⟩ := inv_mov h
  obtain ⟨h1, h2⟩ := bandE h
  obtain ⟨h2, h3⟩ := bandE h2
  have hn : X.N[i]? = some x := by rw [hx.n]; exact of_decide_eq_true h1
  obtain ⟨k1, k2⟩ := hx.ts x (loc_of h2)
  refine PS.weak (ps_set hx.nd hn k1 (pe_nm hx h3) rfl k2) fun D σ H q => ?_
  obtain ⟨F0, B, F, S, g0, st, q⟩ := q
  have q : OH X.K g E F0 B D (match S[j]? with
    | some (.own xs) => if i ≠ j then .nx ((S.set j .no).set i (.own xs)) else .bad
    | _ => .bad) := q
  split at q
  · rename_i xs eo
    by_cases hij : i ≠ j
    · rw [if_pos hij] at q
      obtain ⟨a, vs, e1, hp, fp, bp, r⟩ := st.own j xs eo
      exact ⟨.ref a, e1, q F H _ g0 (st.mov hij eo e1)⟩
    · rw [if_neg hij] at q
      exact q.elim
  · exact q.elim
theorem k_sm_put {i : Nat} {k : Ex} {e : Ex}  : SmP (.put i k e) := by
  intro c X g E s hy h
  have hx := hy.x
  obtain ⟨x, p, ix, tp, v, pos, rfl, h⟩ := inv_put h
  obtain ⟨h1, h2⟩ := bandE h
  obtain ⟨h2, h3⟩ := bandE h2
  obtain ⟨h3, h4⟩ := bandE h3
  refine PS.weak (ps_asg (s_ev e hx h4).v (pg_sub (pe_nm hx h1) (pe_lk hx h3 (s_ev k hx h3).v) set_list (plainAsg h3)) (swS_false h2) (sws_false h2) rfl) fun D σ H q => ?_
  obtain ⟨F0, B, F, S, g0, st, q⟩ := q
  have q : OH X.K g E F0 B D (match S[i]? with
    | some (.own xs) => Out.of (ev g.Γ e S) fun v => Out.of (evL g.Γ k S) fun x => Out.of x.int? fun j => Out.of (optR (ixOf xs.length j) .ok) fun n => .nx (S.set i (.own (xs.set n v.D)))
    | _ => .bad) := q
  split at q
  · rename_i xs eo
    obtain ⟨p, vs, e1, hp, fp, bp, r⟩ := st.own i xs eo
    refine ⟨B, F, S, st, RH.imp (OH.of q) (fun val _ q F' H' v gr rv => ?_) fun _ _ z => ErW.same st.bh z⟩
    obtain ⟨F2, g2, _, r2⟩ := rv.keep gr
    have s2 := st.grow g2
    refine ⟨.ref p, e1, B, F2, S, s2, RH.imp (OH.of q) (fun d _ q F3 H3 w g3 l3 => ?_) fun _ _ z => ErW.same (st.bh.trans g2.h) z⟩
    obtain ⟨j, e2, q⟩ := RH.got (OH.of q) (int_er d)
    obtain rfl := int_of e2
    obtain ⟨n, e3, q⟩ := RH.got (OH.of (r := optR (ixOf xs.length j) R.ok) q) (fun _ _ => mat_er fun _ => ok_ne)
    have e3 : ixOf xs.length j = some n := by
      cases q4 : ixOf xs.length j with
      | none => rw [q4] at e3; cases e3
      | some m => rw [q4] at e3; cases e3; rfl
    have g23 := g2.trans g3
    have s3 := st.grow g23
    have f3 : F3 p = none := g23.non fp (by rw [hp]; exact fun z => nomatch z)
    refine ⟨p, vs, j, n, rfl, lr_int l3, g23.h _ _ hp, ?_, ?_⟩
    · rw [← r.len]
      exact ixN_of e3
    · exact q F3 _ σ ((g0.trans g23).wr f3 bp) (s3.wr eo e1 (g23.h _ _ hp) ((RpL.mono g23.f _ _ r).set n (Rp.mono g3.f _ _ r2)))
  · exact q.elim
theorem k_sm_ifs {t : Ex} {a : Sms} {b : Sms} (j_a : SmsP a) (j_b : SmsP b) : SmP (.ifs t a b) := by
  intro c X g E s hy h
  have hx := hy.x
  obtain ⟨z, l, r, pos, rfl, h⟩ := inv_ifs h
  obtain ⟨h1, h2⟩ := bandE h
  obtain ⟨h2, h3⟩ := bandE h2
  refine PS.weak (ps_if (s_ev t hx h1).t (j_a.go hy h2) (j_b.go hy h3)) fun D σ H q => ?_
  obtain ⟨F0, B, F, S, g0, st, q⟩ := q
  refine ⟨B, F, S, st, RH.imp (OH.of q) (fun k _ q F' H' gr => ?_) fun _ _ z => ErW.same st.bh z⟩
  cases k with
  | true =>
    rw [if_pos rfl] at q
    exact iteT ⟨F0, B, F', S, g0.trans gr, st.grow gr, q⟩
  | false =>
    rw [if_neg Bool.false_ne_true] at q
    exact iteF ⟨F0, B, F', S, g0.trans gr, st.grow gr, q⟩
theorem k_sm_whl {t : Ex} {b : Sms} (j_b : SmsP b) : SmP (.whl t b) := by
  intro c X g E s hy h
  have hx := hy.x
  obtain ⟨z, l, pos, rfl, h⟩ := inv_whl h
  obtain ⟨h1, h2⟩ := bandE h
  refine PS.weak (ps_while hy.po (s_ev t hx h1).t (j_b.go hy h2)) fun D σ H q => ?_
  obtain ⟨F0, B, F, S, g0, st, q⟩ := q
  refine ⟨fun n σ H => ∃ F S, Grow F0 F B H ∧ StOk X.K B F H σ S ∧ OH X.K g E F0 B D (whlL (fun S => evT g.Γ t S) (fun S => exes g.Γ b S) n S), ⟨FUEL, F, S, g0, st, q⟩, ?_⟩
  rintro n σ H ⟨F, S, g0, st, q⟩
  cases n with
  | zero => exact q.elim
  | succ n =>
    refine ⟨B, F, S, st, RH.imp (OH.of q) (fun k _ q F' H' gr => ?_) fun _ _ z => ErW.same st.bh z⟩
    cases k with
    | false =>
      rw [if_neg Bool.false_ne_true] at q
      exact iteF (q F' H' σ (g0.trans gr) (st.grow gr))
    | true =>
      rw [if_pos rfl] at q
      refine iteT ⟨fun σ' H' => ∃ F S, Grow F0 F B H' ∧ StOk X.K B F H' σ' S ∧ OH X.K g E F0 B D (whlL (fun S => evT g.Γ t S) (fun S => exes g.Γ b S) n S), fun σ' H' z => ⟨n, Nat.lt_succ_self n, z⟩, F0, B, F', S, g0.trans gr, st.grow gr, ?_⟩
      replace q : OH X.K g E F0 B D (match exes g.Γ b S with
        | .nx S2 => whlL (fun S => evT g.Γ t S) (fun S => exes g.Γ b S) n S2
        | .ct S2 => whlL (fun S => evT g.Γ t S) (fun S => exes g.Γ b S) n S2
        | .bk S2 => .nx S2
        | o => o) := q
      cases e1 : exes g.Γ b S with
      | nx S2 => rw [e1] at q; exact fun F H σ gr st => ⟨F, S2, gr, st, q⟩
      | ct S2 => rw [e1] at q; exact fun F H σ gr st => ⟨F, S2, gr, st, q⟩
      | bk S2 => rw [e1] at q; exact q
      | rt val => rw [e1] at q; exact q
      | er _ _ => rw [e1] at q; exact q
      | bad => rw [e1] at q; exact q
theorem k_sm_for_ {tg : Tg} {it : It} {b : Sms} (j_b : SmsP b) : SmP (.for_ tg it b) := by
  intro c X g E s hy h
  have hx := hy.x
  obtain ⟨t, i, l, pos, rfl, h⟩ := inv_for_ h
  obtain ⟨h1, h2⟩ := bandE h
  obtain ⟨h2, h3⟩ := bandE h2
  obtain ⟨h2, hT⟩ := bandE h2
  refine PS.weak (ps_for hy.po hx.calm (s_it it hx h2 hT) (pg_tg hx h1) (j_b.go hy h3) (embI_noset h2)) fun D σ H q => ?_
  obtain ⟨F0, B, F, S, g0, st, q⟩ := q
  refine ⟨B, F, S, st, RH.imp (OH.of q) (fun xs _ q J F1 H1 g1 wk => ?_) fun _ _ z => ErW.same st.bh z⟩
  have ga := g0.trans g1
  refine ⟨fun i m σ H => m = xs.length - i ∧ i ≤ xs.length ∧ ∃ F S, Same F1 F ∧ Grow F0 F B H ∧ StOk X.K B F H σ S ∧ OH X.K g E F0 B D (forL tg (fun S => exes g.Γ b S) (xs.drop i) S), ⟨xs.length, rfl, Nat.zero_le _, F1, S, Same.refl _, g0.trans g1, st.grow g1, q⟩, ?_⟩
  rintro i m σ H ⟨rfl, hi, F, S, sF, g0, st, q⟩
  by_cases hlt : i < xs.length
  · refine .inr ⟨wk.go i H (sF.trans st.fh) hlt, fun σ' H' => ∃ F S, Same F1 F ∧ Grow F0 F B H' ∧ StOk X.K B F H' σ' S ∧ OH X.K g E F0 B D (forL tg (fun S => exes g.Γ b S) (xs.drop (i + 1)) S),
      fun σ' H' ⟨F, S, a1, a2, a3, a4⟩ => ⟨xs.length - (i + 1), by omega, rfl, hlt, F, S, a1, a2, a3, a4⟩, fun x H' y => ?_⟩
    obtain ⟨F2, dx, g2, ex, rx⟩ := wk.yld i F H x H' sF st.fh hlt y
    have ed : xs.drop i = dx :: xs.drop (i + 1) := by
      have h3 : xs[i] = dx := by
        rw [List.getElem?_eq_getElem hlt] at ex
        exact Option.some.inj ex
      rw [List.drop_eq_getElem_cons hlt, h3]
    rw [ed] at q
    have q : OH X.K g E F0 B D (Out.of (tg.set dx S) fun S1 => match exes g.Γ b S1 with
      | .nx S2 => forL tg (fun S => exes g.Γ b S) (xs.drop (i + 1)) S2
      | .ct S2 => forL tg (fun S => exes g.Γ b S) (xs.drop (i + 1)) S2
      | .bk S2 => .nx S2
      | o => o) := q
    obtain ⟨S1, e1, q⟩ := RH.got (OH.of q) (tgset_er _ _ _)
    refine ⟨B, F2, S, dx, S1, st.grow g2, rx, e1, fun σ2 s2 _ => ⟨F1, B, F2, S1, (g0.trans g2).cut ga.f (sF.trans g2.f), s2, ?_⟩⟩
    cases e2 : exes g.Γ b S1 with
    | nx S2 => rw [e2] at q; exact fun F H σ gr st => ⟨F, S2, gr.f, ga.thru gr, st, q⟩
    | ct S2 => rw [e2] at q; exact fun F H σ gr st => ⟨F, S2, gr.f, ga.thru gr, st, q⟩
    | bk S2 => rw [e2] at q; exact fun F H σ gr st => q F H σ (ga.thru gr) st
    | rt val => rw [e2] at q; exact fun F H v gr st => q F H v (ga.thru gr) st
    | er _ _ => rw [e2] at q; exact q
    | bad => rw [e2] at q; exact q
  · have ei : i = xs.length := by omega
    subst ei
    refine .inl ⟨wk.stop _ H (sF.trans st.fh) (Nat.le_refl _), ?_⟩
    rw [List.drop_length] at q
    exact q F H σ g0 st
theorem k_sm_ret {e : Ex}  : SmP (.ret e) := by
  intro c X g E s hy h
  have hx := hy.x
  rcases inv_ret h with ⟨v, pos, rfl, h⟩ | ⟨pos, rfl, rfl⟩
  · skip
    by_cases hv : ∃ i, e = .var i
    · obtain ⟨i, rfl⟩ := hv
      refine PS.weak (ps_ret (pe_nm hx h)) fun D σ H q => ?_
      obtain ⟨F0, B, F, S, g0, st, q⟩ := q
      have q : OH X.K g E F0 B D (match S[i]? with
        | some (.own xs) => .rt (.fr xs)
        | some (.fz x) => .rt (.d x)
        | _ => .bad) := q
      split at q
      · rename_i xs eo
        obtain ⟨p, vs, e1, hp, fp, bp, r⟩ := st.own i xs eo
        exact ⟨_, e1, q F H _ g0 ⟨p, vs, rfl, bp, hp, fp, r⟩⟩
      · rename_i x eo
        obtain ⟨w, e1, r⟩ := st.fz i x eo
        exact ⟨_, e1, q F H _ g0 r⟩
      · exact q.elim
    · refine PS.weak (ps_ret (s_ev e hx h).v) fun D σ H q => ?_
      obtain ⟨F0, B, F, S, g0, st, q⟩ := q
      have q : OH X.K g E F0 B D (Out.of (ev g.Γ e S) fun v => .rt v) := by
        cases e <;> first | exact q | exact absurd ⟨_, rfl⟩ hv
      exact ⟨B, F, S, st, RH.imp (OH.of q) (fun val _ q F' H' v gr r => q F' H' v (g0.trans gr) (r.back st.bh)) fun _ _ z => ErW.same st.bh z⟩
  · skip
    refine PS.weak ps_retN fun D σ H q => ?_
    obtain ⟨F0, B, F, S, g0, st, q⟩ := q
    exact q F H _ g0 (show Rp X.K F .non .non from rp_non)
theorem k_sm_exp {e : Ex}  : SmP (.exp e) := by
  intro c X g E s hy h
  have hx := hy.x
  obtain ⟨v, pos, rfl, h⟩ := inv_exp h
  obtain ⟨h1, h2⟩ := bandE h
  refine PS.weak (ps_expr (s_ev e hx h2).v (sw_false h1)) fun D σ H q => ?_
  obtain ⟨F0, B, F, S, g0, st, q⟩ := q
  exact ⟨B, F, S, st, RH.imp (OH.of q) (fun val _ q F' H' v gr r => q F' H' σ (g0.trans gr) (st.grow gr)) fun _ _ z => ErW.same st.bh z⟩
theorem k_sm_brk   : SmP (.brk ) := by
  intro c X g E s hy h
  obtain ⟨pos, rfl, h⟩ := inv_brk h
  refine PS.weak ps_break fun D σ H q => ?_
  obtain ⟨F0, B, F, S, g0, st, q⟩ := q
  exact q F H σ g0 st
theorem k_sm_cnt   : SmP (.cnt ) := by
  intro c X g E s hy h
  obtain ⟨pos, rfl, h⟩ := inv_cnt h
  refine PS.weak ps_continue fun D σ H q => ?_
  obtain ⟨F0, B, F, S, g0, st, q⟩ := q
  exact q F H σ g0 st
theorem k_sm_pas   : SmP (.pas ) := by
  intro c X g E s hy h
  obtain ⟨pos, rfl, h⟩ := inv_pas h
  refine PS.weak ps_pass fun D σ H q => ?_
  obtain ⟨F0, B, F, S, g0, st, q⟩ := q
  exact q F H σ g0 st
theorem k_sm_nev : SmP .nev := by
  intro c X g E s hy h
  refine PS.weak ps_never fun D σ H q => ?_
  obtain ⟨F0, B, F, S, g0, st, q⟩ := q
  exact q
theorem k_sms_nil   : SmsP (.nil ) := by
  intro c X g E s hy h
  obtain rfl := inv_nil h
  refine PSs.weak pss_nil fun D σ H q => ?_
  obtain ⟨F0, B, F, S, g0, st, q⟩ := q
  exact q F H σ g0 st
theorem k_sms_cons {x : Sm} {r : Sms} (i_x : SmP x) (j_r : SmsP r) : SmsP (.cons x r) := by
  intro c X g E s hy h
  obtain ⟨y, l, rfl, h⟩ := inv_cons h
  obtain ⟨h1, h2⟩ := bandE h
  refine PSs.weak (pss_cons (i_x.go hy h1) (j_r.go hy h2)) fun D σ H q => ?_
  obtain ⟨F0, B, F, S, g0, st, q⟩ := q
  refine ⟨F0, B, F, S, g0, st, ?_⟩
  have q : OH X.K g E F0 B D (match exe g.Γ x S with
    | .nx S1 => exes g.Γ r S1
    | o => o) := q
  cases e1 : exe g.Γ x S with
  | nx S2 => rw [e1] at q; exact fun F H σ gr st => ⟨F0, B, F, S2, gr, st, q⟩
  | ct S2 => rw [e1] at q; exact q
  | bk S2 => rw [e1] at q; exact q
  | rt val => rw [e1] at q; exact q
  | er _ _ => rw [e1] at q; exact q
  | bad => rw [e1] at q; exact q
theorem k_sms_frz {i : Nat} {r : Sms} (j_r : SmsP r) : SmsP (.frz i r) := by
  intro c X g E s hy h
  refine PSs.weak (j_r.go hy h) fun D σ H q => ?_
  obtain ⟨F0, B, F, S, g0, st, q⟩ := q
  obtain ⟨F2, s1, n2, st2⟩ := st.frz i
  exact ⟨F0, B, F2, frzS S i, ⟨g0.f.trans s1, st2.fh, g0.h, fun a ha => (n2 a ha).elim (fun z => g0.new a z) .inr⟩, st2, q⟩
mutual
theorem s_smP : ∀ x : Sm, SmP x
  | .set i e => k_sm_set 
  | .setT is e => k_sm_setT 
  | .aug i o e => k_sm_aug 
  | .app i e => k_sm_app 
  | .ext i e => k_sm_ext 
  | .mov i j => k_sm_mov 
  | .put i k e => k_sm_put 
  | .ifs t a b => k_sm_ifs (s_smsP a) (s_smsP b)
  | .whl t b => k_sm_whl (s_smsP b)
  | .for_ tg it b => k_sm_for_ (s_smsP b)
  | .ret e => k_sm_ret 
  | .exp e => k_sm_exp 
  | .brk  => k_sm_brk 
  | .cnt  => k_sm_cnt 
  | .nev => k_sm_nev
  | .fst _ _ _ => fun _ _ _ _ _ _ h => noF h
  | .ini _ _ => fun _ _ _ _ _ _ h => noF h
  | .pas  => k_sm_pas 
theorem s_smsP : ∀ x : Sms, SmsP x
  | .nil  => k_sms_nil 
  | .cons x r => k_sms_cons (s_smP x) (s_smsP r)
  | .frz i r => k_sms_frz (s_smsP r)
end
theorem s_sms (x : Sms) {c : Ck} {X : Cx} {g : Gv} {E : XK} {s : List Stmt} (hy : YOk X c g E) (h : embSs c x s = true) : PSs X s (tS X.K g E (exes g.Γ x)) := s_smsP x c X g E s hy h
end
end Fv
end
section
set_option maxHeartbeats 400000
namespace Fv
open PySem PySem.Spec PyProof.Rows L2

noncomputable section
def runA (Γ : Fns) (d : Df) (xs : List D) : R Val := (exes Γ d.body (xs.map Sl.fz ++ List.replicate (d.nl - d.np) Sl.no)).val
def mirN (defs : List (String × Df)) : Nat → Fns
  | 0, _, _ => .bad
  | k + 1, f, xs => optR (defs.lookup f) fun d => run (mirN defs k) d xs
abbrev gN (defs : List (String × Df)) (ei : EIs) (k : Nat) : Gv := ⟨mirN defs k, ei⟩
end
theorem mirN_run {defs : List (String × Df)} {k : Nat} {f : String} {d : Df} (h : defs.lookup f = some d) (xs : List D) : mirN defs (k + 1) f xs = run (mirN defs k) d xs := by
  show optR (defs.lookup f) _ = _
  rw [h]; rfl

def spD (K : PySem.W.Frag) (g : Gv) (d : Df) : Sp := fun vs H Q E => vs.length = d.np ∧ ∃ F ds, Same F H ∧ RpL K F ds vs ∧ RH (runA g.Γ d ds) (fun val => ∀ F' H' v, Grow F F' H H' → VR K F' H H' val v → Q v H') (ErW g E H)
/-- a def of the module, called with n arguments -/
structure FnM (P : Program) (w : World) (K : PySem.W.Frag) (mg : Str → Option Value) (base : Heap) (k : Nat) (g : Gv) (f : String) (n : Nat) : Prop where
  ex : ∃ (a : Addr) (fd : FuncData) (ps : List Str) (dvs : List V) (ds : List Value) (sp : Sp), mg (Str.ofString f) = some (.ref a) ∧ PySem.W.keepIn K (.ref a) = true ∧ Binds K fd ps ds ∧ Vals dvs ds ∧
    FnOk P w K mg base (L2.CX P w) k a fd ps sp ∧ ∀ vs H Q E, vs.length = n → spF K g f vs H Q E → sp (vs ++ dvs) H Q E
/-- a method of a class of the module, called with n arguments -/
structure MetM (P : Program) (w : World) (K : PySem.W.Frag) (mg : Str → Option Value) (base : Heap) (k : Nat) (g : Gv) (c m : String) (n : Nat) : Prop where
  ex : ∃ (f : Addr) (fd : FuncData) (ps : List Str) (dvs : List V) (ds : List Value) (sp : Sp), Cls K (He.ga K (Str.ofString c)) ∧ Meth K (He.ga K (Str.ofString c)) (Str.ofString m) f ∧ Binds K fd ps ds ∧ Vals dvs ds ∧
    FnOk P w K mg base (L2.CX P w) k f fd ps sp ∧ ∀ vs H Q E, vs.length = n + 1 → spF K g (c ++ "." ++ m) vs H Q E → sp (vs ++ dvs) H Q E
/-- a class of the module, made with n arguments: its __init__ at level k at most -/
structure MkM (P : Program) (w : World) (K : PySem.W.Frag) (mg : Str → Option Value) (base : Heap) (k : Nat) (g : Gv) (c : String) (n : Nat) : Prop where
  ex : ∃ (f : Addr) (fd : FuncData) (ps : List Str) (j : Nat) (dvs : List V) (ds : List Value) (sp : Sp), j + 1 ≤ k ∧ L2.Mk K (He.ga K (Str.ofString c)) f ∧ mg (Str.ofString c) = some (.ref (He.ga K (Str.ofString c))) ∧ Binds K fd ps ds ∧ Vals dvs ds ∧
    FnOk P w K mg base (L2.CX P w) j f fd ps sp ∧ ∀ vs H Q E, vs.length = n + 1 → spI K g c vs H Q E → sp (vs ++ dvs) H Q E
/-- what a def's body needs of the module -/
structure ModOk (P : Program) (w : World) (K : PySem.W.Frag) (mg : Str → Option Value) (base : Heap) (k : Nat) (g : Gv) (c : Ck) : Prop where
  con : ∀ x v, c.G.lookup x = some v → ∃ u, mg x = some u ∧ (match v with | .int i => RelV (.int i) u | .str s => RelV (.str s) u)
  fr : ∀ x, c.fr.contains x = true → mg x = none
  fn : ∀ f n, c.fn.contains (f, n) = true → FnM P w K mg base k g f n
  at_ : ∀ z n, c.at_.contains (z, n) = true → Cls K (He.ga K (Str.ofString z)) ∧ NoAttr K (He.ga K (Str.ofString z)) (Str.ofString n)
  me : ∀ z m n, c.me.contains (z, m, n) = true → MetM P w K mg base k g z m n
  mks : ∀ z n, c.mks.contains (z, n) = true → MkM P w K mg base k g z n
section
variable {P : Program} {w : World} {K : PySem.W.Frag} {mg : Str → Option Value} {base : Heap} {x qual : Str} {params : Arguments} {body : List Stmt} {scope : Scope} {dvs : List V} {kws : List (Str × V)} {f : Addr} {fd : FuncData} {c : Ck} {g : Gv} {k : Nat}
theorem starts {N : List Str} {vs : List V} {ds : List D} {F H : Hp} {d : Df} (hl : vs.length = d.np) (hN : N.length = d.nl) (sF : Same F H) (r : RpL K F ds vs) : StOk K H F H (L2.start N vs) (ds.map Sl.fz ++ List.replicate (d.nl - d.np) Sl.no) where
  bh := Same.refl H
  fh := sF
  len := by
    unfold L2.start
    rw [List.length_append, List.length_append, List.length_map, List.length_map, List.length_replicate, List.length_replicate, r.len, hl, hN]
  fz := fun i y h => by
    by_cases hi : i < ds.length
    · rw [List.getElem?_append_left (by rw [List.length_map]; exact hi), List.getElem?_map] at h
      cases q : ds[i]? with
      | none => rw [q] at h; cases h
      | some z =>
        rw [q] at h
        cases h
        obtain ⟨v, e, rv⟩ := r.get q
        refine ⟨v, ?_, rv⟩
        unfold L2.start
        rw [List.getElem?_append_left (by rw [List.length_map, ← r.len]; exact hi), List.getElem?_map, e]
        rfl
    · rw [List.getElem?_append_right (by rw [List.length_map]; omega), List.getElem?_replicate] at h
      split at h <;> cases h
  own := fun i ys h => by
    by_cases hi : i < ds.length
    · rw [List.getElem?_append_left (by rw [List.length_map]; exact hi), List.getElem?_map] at h
      cases q : ds[i]? with
      | none => rw [q] at h; cases h
      | some z => rw [q] at h; cases h
    · rw [List.getElem?_append_right (by rw [List.length_map]; omega), List.getElem?_replicate] at h
      split at h <;> cases h
  ap := fun i j ys zs p _ h _ _ _ => by
    by_cases hi : i < ds.length
    · rw [List.getElem?_append_left (by rw [List.length_map]; exact hi), List.getElem?_map] at h
      cases q : ds[i]? with
      | none => rw [q] at h; cases h
      | some z => rw [q] at h; cases h
    · rw [List.getElem?_append_right (by rw [List.length_map]; omega), List.getElem?_replicate] at h
      split at h <;> cases h
theorem FnM.at_ {X : Cx} {f : String} {n : Nat} (h : FnM X.prog X.w X.K X.mg X.base k g f n) (hr : Room k X.A) : FnAt X g f n := by
  obtain ⟨a, fd, ps, dvs, ds, sp, h1, h2, h3, h4, h5, h6⟩ := h.ex
  exact ⟨⟨a, fd, ps, k, dvs, ds, sp, h1, h2, hr, h3, h4, h5, h6⟩⟩
theorem MetM.at_ {X : Cx} {z m : String} {n : Nat} (h : MetM X.prog X.w X.K X.mg X.base k g z m n) (hr : Room k X.A) : MetAt X g z m n := by
  obtain ⟨f, fd, ps, dvs, ds, sp, h1, h2, h3, h4, h5, h6⟩ := h.ex
  exact ⟨⟨f, fd, ps, k, dvs, ds, sp, h1, h2, hr, h3, h4, h5, h6⟩⟩
theorem MkM.at_ {X : Cx} {z : String} {n : Nat} (h : MkM X.prog X.w X.K X.mg X.base k g z n) (hr : Room k X.A) : MkAt X g z n := by
  obtain ⟨f, fd, ps, j, dvs, ds, sp, h0, h1, h2, h3, h4, h5, h6⟩ := h.ex
  exact ⟨⟨f, fd, ps, j, dvs, ds, sp, h1, h2, hr.mono h0, h3, h4, h5, h6⟩⟩
theorem isIni_of {b : Sms} {l : List Stmt} (h : embSs c b l = true) : isIni b = false := by
  cases b with
  | nil => rfl
  | frz i r => rfl
  | cons s r =>
    cases s with
    | fst cs n e =>
      obtain ⟨y, l', rfl, h2⟩ := inv_cons h
      exact noF (bandE h2).1
    | ini b es =>
      obtain ⟨y, l', rfl, h2⟩ := inv_cons h
      exact noF (bandE h2).1
    | _ => rfl
/-- a def does what its mirror says -/
theorem fn_ok {N ps : List Str} {d : Df} (F : FunD K x qual params body scope dvs kws f fd) (S : FnScope N ps scope) (hN : c.N = N) (hsc : c.sc = scope) (hts : c.ts = scope) (m : ModOk P w K mg base k g c) (hb : embSs c d.body body = true) (hnl : N.length = d.nl) (hnp : ps.length = d.np) :
    FnOk P w K mg base (L2.CX P w) (k + 1) f fd ps (spD K g d) := by
  refine F.ok S (fun vs H Q E h => h.1.trans hnp.symm) fun cdv A outer s H vs Q E hr h => ?_
  obtain ⟨hl, F, ds, sF, rp, q⟩ := h
  have tk : Takes (cxOf (L2.CX P w) P w K mg base N qual scope f cdv A outer s H E) (fun cls d _ H => E cls d H) := takes_of rfl rfl rfl rfl
  have hy : YOk (cxOf (L2.CX P w) P w K mg base N qual scope f cdv A outer s H E) c g E := {
    x := {
      n := hN.symm
      nd := S.nd
      sc := hsc.symm
      calm := rfl
      hu := by have := hr.un; show (A.deeper _).units + 64 < cLine; omega
      ts := fun y hy => ⟨by rw [hts] at hy; exact hy, .inl rfl⟩
      con := m.con
      fr := m.fr
      fn := fun f n h => (m.fn f n h).at_ hr
      ps := passes_call tk fun _ _ _ _ h => h
      at_ := m.at_
      me := fun z n j h => (m.me z n j h).at_ hr
      mks := fun z n h => (m.mks z n h).at_ hr }
    po := passes_of rfl }
  refine ⟨_, s_sms d.body hy hb, F, H, F, _, Grow.refl sF, starts hl hnl sF rp, ?_⟩
  have q : RH (exes g.Γ d.body (ds.map Sl.fz ++ List.replicate (d.nl - d.np) Sl.no)).val (fun val => ∀ F' H' v, Grow F F' H H' → VR K F' H H' val v → Q v H') (ErW g E H) := q
  cases e : exes g.Γ d.body (ds.map Sl.fz ++ List.replicate (d.nl - d.np) Sl.no) with
  | nx S => rw [e] at q; exact fun F' H' σ gr st => q F' H' _ gr (show Rp K F' .non .non from rp_non)
  | rt val => rw [e] at q; exact q
  | bk S => rw [e] at q; exact q.elim
  | ct S => rw [e] at q; exact q.elim
  | er _ _ => rw [e] at q; exact q
  | bad => rw [e] at q; exact q.elim
/-- .. by its name, with n written arguments -/
theorem fn_m {defs : List (String × Df)} {ei : EIs} {name : String} {N ps : List Str} {d : Df} {n km : Nat} (F : FunD K x qual params body scope dvs kws f fd) (hmg : mg (Str.ofString name) = some (.ref f)) (S : FnScope N ps scope) (hN : c.N = N) (hsc : c.sc = scope) (hts : c.ts = scope)
    (m : ModOk P w K mg base k (gN defs ei km) c) (hb : embSs c d.body body = true) (hnl : N.length = d.nl) (hnp : ps.length = d.np) (hd : defs.lookup name = some d) (hn : n ≤ d.np ∧ d.np ≤ n + d.dfl.length)
    (hdv : ∀ F : Hp, RpL K F d.dfl dvs) (b : ∃ ds, Vals (dvs.drop (n + d.dfl.length - d.np)) ds ∧ Binds K fd ps ds) : FnM P w K mg base (k + 1) (gN defs ei (km + 1)) name n := by
  obtain ⟨ds, hv, hb'⟩ := b
  refine ⟨f, fd, ps, _, ds, _, hmg, F.kp, hb', hv, fn_ok F S hN hsc hts m hb hnl hnp, fun vs H Q E hl h => ?_⟩
  obtain ⟨Fh, xs, sF, rp, q⟩ := h
  have hx : xs.length = n := rp.len.trans hl
  have dl : d.dfl.length = dvs.length := (hdv Fh).len
  refine ⟨?_, Fh, xs ++ d.dfl.drop (n + d.dfl.length - d.np), sF, rp.app ((hdv Fh).drop _), ?_⟩
  · rw [List.length_append, List.length_drop, hl, ← dl]
    omega
  · have q : RH (mirN defs (km + 1) name xs) (fun val => ∀ F' H' v, Grow Fh F' H H' → VR K F' H H' val v → Q v H') (ErW (gN defs ei (km + 1)) E H) := q
    rw [mirN_run hd] at q
    unfold run at q
    rw [if_neg (by rw [isIni_of hb]; exact Bool.false_ne_true), hx, if_pos hn] at q
    exact q
/-- no defaults -/
theorem fn_m0 {defs : List (String × Df)} {ei : EIs} {name : String} {N ps : List Str} {d : Df} {km : Nat} (F : FunD K x qual params body scope [] kws f fd) (hmg : mg (Str.ofString name) = some (.ref f)) (S : FnScope N ps scope) (hN : c.N = N) (hsc : c.sc = scope) (hts : c.ts = scope)
    (m : ModOk P w K mg base k (gN defs ei km) c) (hb : embSs c d.body body = true) (hnl : N.length = d.nl) (hnp : ps.length = d.np) (hd : defs.lookup name = some d) (hdf : d.dfl = [])
    (b : Binds K fd ps []) : FnM P w K mg base (k + 1) (gN defs ei (km + 1)) name d.np :=
  fn_m F hmg S hN hsc hts m hb hnl hnp hd ⟨Nat.le_refl _, by rw [hdf]; exact Nat.le_refl _⟩ (fun F => by rw [hdf]; exact RpL.nil) ⟨[], by rw [List.drop_nil]; exact .nil, b⟩
end
end Fv
end
section
set_option maxHeartbeats 400000
namespace Fv
open PySem PySem.Spec PyProof.Rows L2 ClX
section
variable {X : Cx} {o e : Expr} {es : List Expr} {ta : TE} {t : TA} {m : Str} {C f : Addr} {mc : Value} {fd : FuncData} {ps : List Str} {ds : List Value} {dvs : List V} {sp : Sp} {CX : CXT} {E : XK} {k : Nat} {apos pos : Pos}
/-- C.m(..), m a def of the class, self among the arguments -/
theorem pe_ccall {pl : Sem Bool} (he : PE X o ta) (r : CRead X.K C mc) (cv : CVal X.K C mc m (.ref f) (.ref f)) (kp : PySem.W.keepIn X.K (.ref f) = true) (F : FnOk X.prog X.w X.K X.mg X.base CX k f fd ps sp) (hr : Room k X.A) (hb : Binds X.K fd ps ds) (hd : Vals dvs ds) (hx : Passes CX X E) (ha : PA X (e :: es) t)
    (hst : starEach (e :: es) X.env = (false, eval e X.env) :: starEach es X.env) (hpl : (backTo pos (starEach es X.env)).any (·.1) = false)
    (ht : eval (.Call (.Attribute o m apos) (e :: es) [] pos) X.env = (do
      let ov ← eval o X.env
      standAt apos.atName
      let (f, first) ← holding [ov] (getMethod ov m pl)
      callWith pos f first (backTo pos (starEach (e :: es) X.env)) (backToKw pos (keywordEach [] X.env)))) :
    PE X (.Call (.Attribute o m apos) (e :: es) [] pos) (fun σ H Q => ta σ H fun x H1 => x = .ref C ∧ t σ H1 fun vs H2 => sp (vs ++ dvs) H2 Q E) := by
  refine ⟨fun pins s σ H Q I h => ?_⟩
  refine PySem.W.methodCall_KW (pl := pl) (thn (he.run pins s σ H _ I h) fun u s1 ⟨x, H1, I1, rx, ex, q⟩ => ?_) ht
  subst ex
  obtain rfl : u = Value.ref C := rx
  refine PySem.W.method_cls I1.kIn r.ga (getcval_ok I1 r cv fun s2 I2 => ?_)
  refine PySem.W.callWith_K (first := []) (h₀ := X.base) I.ok.mod.kin kp (thn (ha.run pos pins s2 σ H1 _ I2 q) fun us s3 ⟨vs, H2, I3, rv, q2⟩ => ⟨I3.kIn, ?_⟩) hst hpl
  exact run_fn (us := us) (vs := vs) F hr hb hd hx I3 rv q2
end
section
variable {K : PySem.W.Frag} {B F F' H H' : Hp} {σ : Sx} {S : Sg} {p : Addr}
theorem hid_same : hid p H p = none := if_pos rfl
theorem hid_ne {a : Addr} (h : a ≠ p) : hid p H a = H a := if_neg h
theorem same_hid (s : Same F H) (fp : F p = none) : Same F (hid p H) := fun b o e => by rw [hid_ne (ne_of_none e fp)]; exact s b o e
theorem hid_sub : Same (hid p H) H := fun b o e => by
  by_cases h : b = p
  · subst h; rw [hid_same] at e; cases e
  · rw [hid_ne h] at e; exact e
theorem Grow.hid (g : Grow F F' H H') (fp : F p = none) (hp : H p ≠ none) : Grow F F' (hid p H) (hid p H') := by
  have f'p := g.non fp hp
  refine ⟨g.f, same_hid g.fh f'p, fun b o e => ?_, fun a ha => ?_⟩
  · by_cases h : b = p
    · subst h; rw [hid_same] at e; cases e
    · rw [hid_ne h] at e ⊢; exact g.h b o e
  · rcases g.new a ha with z | z
    · exact .inl z
    · refine .inr ?_
      by_cases h : a = p
      · subst h; exact hid_same
      · rw [hid_ne h]; exact z
theorem StOk.unhid (s : StOk K B F (Fv.hid p H) σ S) : StOk K B F H σ S where
  bh := s.bh.trans hid_sub
  fh := s.fh.trans hid_sub
  len := s.len
  fz := s.fz
  own := fun i xs h => by
    obtain ⟨q, vs, e, hq, r⟩ := s.own i xs h
    exact ⟨q, vs, e, hid_sub _ _ hq, r⟩
  ap := s.ap
theorem StOk.hid (s : StOk K B F H σ S) (bp : B p = none) (fp : F p = none) (no : ∀ vs, H p ≠ some (.lst vs)) : StOk K B F (Fv.hid p H) σ S where
  bh := same_hid s.bh bp
  fh := same_hid s.fh fp
  len := s.len
  fz := s.fz
  own := fun i xs h => by
    obtain ⟨q, vs, e, hq, r⟩ := s.own i xs h
    have hne : q ≠ p := fun z => no vs (by rw [← z]; exact hq)
    exact ⟨q, vs, e, by rw [hid_ne hne]; exact hq, r⟩
  ap := s.ap
theorem hid_upd {o : HO} : hid p (upd H p o) = hid p H := by
  funext a
  by_cases h : a = p
  · subst h; rw [hid_same, hid_same]
  · rw [hid_ne h, hid_ne h, upd_ne h]
end
structure IniM (P : Program) (w : World) (K : PySem.W.Frag) (mg : Str → Option Value) (base : Heap) (k : Nat) (g : Gv) (b : String) (n : Nat) : Prop where
  ex : ∃ (f : Addr) (fd : FuncData) (ps : List Str) (dvs : List V) (ds : List Value) (sp : Sp) (mc : Value), CRead K (He.ga K (Str.ofString b)) mc ∧ CVal K (He.ga K (Str.ofString b)) mc "__init__" (.ref f) (.ref f) ∧ mg (Str.ofString b) = some (.ref (He.ga K (Str.ofString b))) ∧
    PySem.W.keepIn K (.ref f) = true ∧ Binds K fd ps ds ∧ Vals dvs ds ∧ FnOk P w K mg base (L2.CX P w) k f fd ps sp ∧ ∀ vs H Q E, vs.length = n + 1 → spI K g b vs H Q E → sp (vs ++ dvs) H Q E
def embIs (c : Ck) : Sms → List Stmt → Bool
  | .nil, l => match l with
    | [] => true
    | _ => false
  | .cons (.fst cs n e) r, l => match l with
    | .Assign [.Attribute o f _] v _ :: l => decide (f = Str.ofString n) && (emb c (.var 0) o && (noDisp v && ((cs.all fun z => c.at_.contains (z, n)) && (emb c e v && embIs c r l))))
    | _ => false
  | .cons (.ini b es) r, l => match l with
    | .Expr (.Call (.Attribute (.Name x p) f apos) (s :: a) [] pos) _ :: l => decide (f = ("__init__" : Str)) && (decide (x = Str.ofString b) && (gloB c.sc x && ((apos.endLine == pos.line) && (decide (a.length < 29) && (emb c (.var 0) s && (!isStar s && (embs c es a && (c.bas.contains (b, a.length) && embIs c r l))))))))
    | _ => false
  | _, _ => false
def tIn (K : PySem.W.Frag) (g : Gv) (b : Sms) : TS := fun D σ H => ∃ F0 B0 F p S cn ns xs, σ[0]? = some (some (.ref p)) ∧ Grow F0 F B0 (hid p H) ∧ Same F H ∧ StOk K B0 F (hid p H) σ S ∧ OI K F H p (.ins cn ns xs) ∧
  RH (iexe g.Γ b S cn ns xs) (fun val => ∀ y F' H' σ', val = .d y → Grow F0 F' B0 (hid p H') → Same F' H' → OI K F' H' p y → D.nx σ' H') fun _ _ => False
theorem zip_app {m k : Str} {v : V} : ∀ {ks : List Str} {vs : List V}, ks.length = vs.length → ((ks ++ [k]).zip (vs ++ [v])).lookup m = ((ks.zip vs).lookup m).or (if m = k then some v else none)
  | [], [], _ => by
    show ([(k, v)] : List (Str × V)).lookup m = _
    rw [List.lookup_cons]
    by_cases h : m = k
    · subst h
      rw [beq_self_eq_true, if_pos rfl]; rfl
    · have hb : (m == k) = false := by simpa using h
      rw [hb, if_neg h]; rfl
  | [], _ :: _, h => by cases h
  | _ :: _, [], h => by cases h
  | x :: ks, y :: vs, h => by
    rw [List.cons_append, List.cons_append, List.zip_cons_cons, List.zip_cons_cons, List.lookup_cons, List.lookup_cons]
    by_cases hx : m = x
    · subst hx
      rw [beq_self_eq_true]; rfl
    · have hb : (m == x) = false := by simpa using hx
      rw [hb]
      exact zip_app (by simpa using h)
section
variable {X : Cx} {c : Ck} {g : Gv} {E : XK}
theorem ini_sms (hx : XOk X c g E) {k : Nat} (hr : Room k X.A) (hi : ∀ z n, c.bas.contains (z, n) = true → IniM X.prog X.w X.K X.mg X.base k g z n) : ∀ (b : Sms) {l : List Stmt}, embIs c b l = true → PSs X l (tIn X.K g b)
  | .nil, l, h => by
    cases l with
    | cons _ _ => exact noF h
    | nil =>
      refine PSs.weak pss_nil fun D σ H q => ?_
      obtain ⟨F0, B0, F, p, S, cn, ns, xs, e0, g0, sF, st, oi, q⟩ := q
      exact q _ F H σ rfl g0 sF oi
  | .frz _ _, l, h => noF h
  | .cons s r, l, h => by
    cases s with
    | fst cs n e =>
      unfold embIs at h
      split at h
      · rename_i o f tp v pos l
        obtain ⟨h1, q1⟩ := bandE h
        obtain ⟨h2, q2⟩ := bandE q1
        obtain ⟨h3, q3⟩ := bandE q2
        obtain ⟨h4, q4⟩ := bandE q3
        obtain ⟨h5, h6⟩ := bandE q4
        have e1 : f = Str.ofString n := of_decide_eq_true h1
        subst e1
        refine PSs.weak (pss_cons (ps_fld (pe_nm hx h2) (s_ev e hx h5).v (sw_false h3)) (ini_sms hx hr hi r h6)) fun D σ H q => ?_
        obtain ⟨F0, B0, F, p, S, cn, ns, xs, e0, g0, sF, st, oi, q⟩ := q
        have q : RH (if cn ∈ cs ∧ n ∉ ns ∧ ns.length < 50 then ev g.Γ e S >>= fun v => iexe g.Γ r S cn (ns ++ [n]) (xs ++ [v.D]) else .bad) (fun val => ∀ y F' H' σ', val = .d y → Grow F0 F' B0 (hid p H') → Same F' H' → OI X.K F' H' p y → D.nx σ' H') (fun _ _ => False) := q
        by_cases hc : cn ∈ cs ∧ n ∉ ns ∧ ns.length < 50
        · rw [if_pos hc] at q
          obtain ⟨dx, fsV, vs, hp, r1, hlen, hfl, hl⟩ := oi
          have fp : F p = none := g0.fh.free hid_same
          have bp : B0 p = none := g0.h.free hid_same
          refine ⟨B0, F, S, st.unhid, RH.imp (RH.bind q) (fun val _ q F1 H1 w gr rv => ?_) fun _ _ z => z.elim⟩
          obtain ⟨F2, g2, _, r2⟩ := rv.keep gr
          have hp1 : H1 p = some (.ins (He.ga X.K (Str.ofString cn)) dx fsV) := g2.h _ _ hp
          have f2 : F2 p = none := g2.non fp (by rw [hp]; exact fun z => nomatch z)
          obtain ⟨cl, na⟩ := hx.at_ cn n (List.all_eq_true.mp h4 cn hc.1)
          have gh := g2.hid (p := p) fp (by rw [hp]; exact fun z => nomatch z)
          have st2 := st.grow gh
          refine ⟨.ref p, e0, p, _, dx, fsV, rfl, hp1, cl, na, by omega, ?_⟩
          refine ⟨F0, B0, F2, p, S, cn, ns ++ [n], xs ++ [val.D], e0, by rw [hid_upd]; exact g0.trans gh, same_upd2 g2.fh f2, by rw [hid_upd]; exact st2, ?_, q⟩
          refine ⟨dx, _, vs ++ [w], upd_same, (RpL.mono g2.f _ _ r1).app (RpL.cons r2 RpL.nil), by rw [List.length_append, List.length_append, hlen]; rfl, ?_, fun m => ?_⟩
          · have := length_putF (Str.ofString n) w fsV
            rw [List.length_append]
            show _ ≤ ns.length + 1
            omega
          · rw [lookup_putF, List.map_append]
            show _ = ((ns.map Str.ofString ++ [Str.ofString n]).zip (vs ++ [w])).lookup m
            rw [zip_app (by rw [List.length_map, hlen, r1.len]), hl]
            by_cases hm : m = Str.ofString n
            · subst hm
              rw [if_pos rfl, if_pos rfl, zip_none hc.2.1]; rfl
            · rw [if_neg hm, if_neg hm, Option.or_none]
        · rw [if_neg hc] at q
          exact q.elim
      · cases h
    | ini b es =>
      unfold embIs at h
      split at h
      · rename_i x p0 f apos s a pos pos2 l
        obtain ⟨h1, q1⟩ := bandE h
        obtain ⟨h2, q2⟩ := bandE q1
        obtain ⟨h3, q3⟩ := bandE q2
        obtain ⟨h4, q4⟩ := bandE q3
        obtain ⟨h5, q5⟩ := bandE q4
        obtain ⟨h6, q6⟩ := bandE q5
        obtain ⟨h7, q7⟩ := bandE q6
        obtain ⟨h8, q8⟩ := bandE q7
        obtain ⟨h9, h10⟩ := bandE q8
        have e1 : f = ("__init__" : Str) := of_decide_eq_true h1
        subst e1
        have e2 : x = Str.ofString b := of_decide_eq_true h2
        subst e2
        have h5 : a.length < 29 := of_decide_eq_true h5
        obtain ⟨k1, k2, k3⟩ := glo_of hx h3
        obtain ⟨ff, fd, ps, dvs, ds, sp, mc, r1, r2, r3, r4, r5, r6, r7, r8⟩ := (hi b a.length h9).ex
        have st := embs_stars h8
        have hall : ((s :: a).all fun e => !isStar e) = true := by rw [List.all_cons, h7, st]; rfl
        have ht := meth_form (o := .Name (Str.ofString b) p0) (m := "__init__") (apos := apos) (pos := pos) (env := X.env) (l := s :: a) rfl h4 hall (by rw [List.length_cons]; omega)
        have pg : PE X (.Name (Str.ofString b) p0) (tC (.ref (He.ga X.K (Str.ofString b)))) := pe_glob k1 r3 rfl k2
        refine PSs.weak (pss_cons (ps_expr (pe_ccall pg r1 r2 r4 r7 hr r5 r6 hx.ps (pa_cons (pe_nm hx h6) (s_dsP es c X g E a hx h8) (star_of (notE h7))) (star_of (notE h7)) (plain_back (e := s) st) ht) rfl) (ini_sms hx hr hi r h10)) fun D σ H q => ?_
        obtain ⟨F0, B0, F, p, S, cn, ns, xs, e0, g0, sF, st, oi, q⟩ := q
        have q : RH (evs g.Γ es S >>= fun ds => (g.Γ (b ++ ".__init__") (.ins cn ns xs :: ds)).noEr >>= fun v => match v with
          | .d (.ins c' ns' xs') => if c' = cn then iexe g.Γ r S cn ns' xs' else .bad
          | _ => .bad) (fun val => ∀ y F' H' σ', val = .d y → Grow F0 F' B0 (hid p H') → Same F' H' → OI X.K F' H' p y → D.nx σ' H') (fun _ _ => False) := q
        refine ⟨rfl, .ref p, e0, B0, F, S, st.unhid, RH.imp (RH.bind q) (fun ds' e3 q F1 H1 ws g1 rw1 => ?_) fun _ _ z => z.elim⟩
        obtain ⟨dx, fsV, vs, hp, ro, hlen, hfl, hl⟩ := oi
        have fp : F p = none := g0.fh.free hid_same
        have f1 : F1 p = none := g1.non fp (by rw [hp]; exact fun z => nomatch z)
        have gh := g1.hid (p := p) fp (by rw [hp]; exact fun z => nomatch z)
        obtain ⟨val, e4, q⟩ := noEr_ok q
        have wl : ws.length = a.length := by rw [← rw1.len]; exact evs_len h8 e3
        refine r8 (.ref p :: ws) H1 _ E (by rw [List.length_cons, wl]) ?_
        refine ⟨F1, p, ws, .ins cn ns xs, ds', rfl, ⟨dx, fsV, vs, g1.h _ _ hp, RpL.mono g1.f _ _ ro, hlen, hfl, hl⟩, f1, g1.fh, rw1, ?_⟩
        rw [e4]
        intro y F' H' ey gr sF' oi'
        subst ey
        cases y with
        | ins c' ns' xs' =>
          have q : RH (if c' = cn then iexe g.Γ r S cn ns' xs' else .bad) _ _ := q
          by_cases hcc : c' = cn
          · subst hcc
            rw [if_pos rfl] at q
            exact ⟨F0, B0, F', p, S, c', ns', xs', e0, (g0.trans gh).trans gr, sF', (st.grow gh).grow gr, oi', q⟩
          · rw [if_neg hcc] at q
            exact q.elim
        | _ => exact oi'.elim
      · cases h
    | _ => exact noF h
end
def spID (K : PySem.W.Frag) (g : Gv) (d : Df) : Sp := fun vs H Q E => vs.length = d.np ∧ ∃ F p ws x ds, vs = .ref p :: ws ∧ OI K F H p x ∧ F p = none ∧ Same F H ∧ RpL K F ds ws ∧
  RH (runI g.Γ d (x :: ds)) (fun val => ∀ y F' H', val = .d y → Grow F F' (hid p H) (hid p H') → Same F' H' → OI K F' H' p y → Q .non H') fun _ _ => False
section
variable {P : Program} {w : World} {K : PySem.W.Frag} {mg : Str → Option Value} {base : Heap} {x qual : Str} {params : Arguments} {body : List Stmt} {scope : Scope} {dvs : List V} {kws : List (Str × V)} {f : Addr} {fd : FuncData} {c : Ck} {g : Gv} {k : Nat}
theorem startsI {N : List Str} {ws : List V} {ds : List D} {F H : Hp} {d : Df} {p : Addr} (hl : ws.length + 1 = d.np) (hN : N.length = d.nl) (sF : Same F H) (r : RpL K F ds ws) : StOk K H F H (L2.start N (.ref p :: ws)) (.no :: ds.map Sl.fz ++ List.replicate (d.nl - d.np) Sl.no) where
  bh := Same.refl H
  fh := sF
  len := by
    unfold L2.start
    rw [List.length_append, List.length_cons, List.length_append, List.length_map, List.length_map, List.length_replicate, List.length_replicate, List.length_cons, r.len, hN]
    omega
  fz := fun i y h => by
    cases i with
    | zero => cases h
    | succ i =>
      rw [List.cons_append, List.getElem?_cons_succ] at h
      by_cases hi : i < ds.length
      · rw [List.getElem?_append_left (by rw [List.length_map]; exact hi), List.getElem?_map] at h
        cases q : ds[i]? with
        | none => rw [q] at h; cases h
        | some z =>
          rw [q] at h
          cases h
          obtain ⟨v, e, rv⟩ := r.get q
          refine ⟨v, ?_, rv⟩
          unfold L2.start
          rw [List.map_cons, List.cons_append, List.getElem?_cons_succ, List.getElem?_append_left (by rw [List.length_map, ← r.len]; exact hi), List.getElem?_map, e]
          rfl
      · rw [List.getElem?_append_right (by rw [List.length_map]; omega), List.getElem?_replicate] at h
        split at h <;> cases h
  own := fun i ys h => by
    cases i with
    | zero => cases h
    | succ i =>
      rw [List.cons_append, List.getElem?_cons_succ] at h
      by_cases hi : i < ds.length
      · rw [List.getElem?_append_left (by rw [List.length_map]; exact hi), List.getElem?_map] at h
        cases q : ds[i]? with
        | none => rw [q] at h; cases h
        | some z => rw [q] at h; cases h
      · rw [List.getElem?_append_right (by rw [List.length_map]; omega), List.getElem?_replicate] at h
        split at h <;> cases h
  ap := fun i j ys zs p _ h _ _ _ => by
    cases i with
    | zero => cases h
    | succ i =>
      rw [List.cons_append, List.getElem?_cons_succ] at h
      by_cases hi : i < ds.length
      · rw [List.getElem?_append_left (by rw [List.length_map]; exact hi), List.getElem?_map] at h
        cases q : ds[i]? with
        | none => rw [q] at h; cases h
        | some z => rw [q] at h; cases h
      · rw [List.getElem?_append_right (by rw [List.length_map]; omega), List.getElem?_replicate] at h
        split at h <;> cases h
theorem ini_ok {N ps : List Str} {d : Df} (F : FunD K x qual params body scope dvs kws f fd) (S : FnScope N ps scope) (hN : c.N = N) (hsc : c.sc = scope) (hts : c.ts = scope) (m : ModOk P w K mg base k g c) (hi : ∀ z n, c.bas.contains (z, n) = true → IniM P w K mg base k g z n)
    (hb : embIs c d.body body = true) (hnl : N.length = d.nl) (hnp : ps.length = d.np) : FnOk P w K mg base (L2.CX P w) (k + 1) f fd ps (spID K g d) := by
  refine F.ok S (fun vs H Q E h => h.1.trans hnp.symm) fun cdv A outer s H vs Q E hr h => ?_
  obtain ⟨hl, Fh, p, ws, y, ds, rfl, oi, fp, sF, rp, q⟩ := h
  have tk : Takes (cxOf (L2.CX P w) P w K mg base N qual scope f cdv A outer s H E) (fun cls d _ H => E cls d H) := takes_of rfl rfl rfl rfl
  have hx : XOk (cxOf (L2.CX P w) P w K mg base N qual scope f cdv A outer s H E) c g E := {
      n := hN.symm
      nd := S.nd
      sc := hsc.symm
      calm := rfl
      hu := by have := hr.un; show (A.deeper _).units + 64 < cLine; omega
      ts := fun y hy => ⟨by rw [hts] at hy; exact hy, .inl rfl⟩
      con := m.con
      fr := m.fr
      fn := fun f n h => (m.fn f n h).at_ hr
      ps := passes_call tk fun _ _ _ _ h => h
      at_ := m.at_
      me := fun z n j h => (m.me z n j h).at_ hr
      mks := fun z n h => (m.mks z n h).at_ hr }
  cases y with
  | ins cn ns xs =>
    have q : RH (if ds.length + 1 = d.np then iexe g.Γ d.body (.no :: ds.map Sl.fz ++ List.replicate (d.nl - d.np) Sl.no) cn ns xs else .bad) (fun val => ∀ y F' H', val = .d y → Grow Fh F' (hid p H) (hid p H') → Same F' H' → OI K F' H' p y → Q .non H') (fun _ _ => False) := q
    have hl : ws.length + 1 = d.np := hl
    rw [if_pos (by rw [rp.len]; exact hl)] at q
    have sh : Same Fh (hid p H) := same_hid sF fp
    refine ⟨_, ini_sms hx hr hi d.body hb, Fh, hid p H, Fh, p, _, cn, ns, xs, rfl, Grow.refl sh, sF, startsI hl hnl sh rp, oi, RH.imp q (fun val _ q y F' H' σ' e gr s' o' => q y F' H' e gr s' o') fun _ _ z => z⟩
  | _ => exact oi.elim
/-- .. by its mirror -/
theorem ini_sp {defs : List (String × Df)} {ei : EIs} {b : String} {d : Df} {km n : Nat} (hd : defs.lookup (b ++ ".__init__") = some d) (hi : isIni d.body = true) (hn : n + 1 = d.np) : ∀ vs H Q E, vs.length = n + 1 → spI K (gN defs ei (km + 1)) b vs H Q E → spID K (gN defs ei km) d (vs ++ []) H Q E := by
  intro vs H Q E hl h
  obtain ⟨F, p, ws, y, ds, e, oi, fp, sF, rp, q⟩ := h
  rw [List.append_nil]
  refine ⟨hl.trans hn, F, p, ws, y, ds, e, oi, fp, sF, rp, ?_⟩
  have q : RH (mirN defs (km + 1) (b ++ ".__init__") (y :: ds)) (fun val => ∀ y F' H', val = .d y → Grow F F' (hid p H) (hid p H') → Same F' H' → OI K F' H' p y → Q .non H') (fun _ _ => False) := q
  rw [mirN_run hd] at q
  unfold run at q
  rw [if_pos hi] at q
  exact q
/-- a class that is made; a base's __init__ -/
theorem mk_m {defs : List (String × Df)} {ei : EIs} {z : String} {N ps : List Str} {d : Df} {km n : Nat} (F : FunD K x qual params body scope [] kws f fd) (M : L2.Mk K (He.ga K (Str.ofString z)) f) (hmg : mg (Str.ofString z) = some (.ref (He.ga K (Str.ofString z)))) (S : FnScope N ps scope) (hN : c.N = N) (hsc : c.sc = scope) (hts : c.ts = scope)
    (m : ModOk P w K mg base k (gN defs ei km) c) (hi : ∀ z n, c.bas.contains (z, n) = true → IniM P w K mg base k (gN defs ei km) z n) (hb : embIs c d.body body = true) (hnl : N.length = d.nl) (hnp : ps.length = d.np) (hd : defs.lookup (z ++ ".__init__") = some d) (hini : isIni d.body = true) (hn : n + 1 = d.np)
    (b : Binds K fd ps []) : MkM P w K mg base (k + 2) (gN defs ei (km + 1)) z n :=
  ⟨f, fd, ps, k + 1, [], [], _, Nat.le_refl _, M, hmg, b, .nil, ini_ok F S hN hsc hts m hi hb hnl hnp, ini_sp hd hini hn⟩
theorem ini_m {defs : List (String × Df)} {ei : EIs} {z : String} {N ps : List Str} {d : Df} {km n : Nat} {mc : Value} (F : FunD K x qual params body scope [] kws f fd) (r1 : CRead K (He.ga K (Str.ofString z)) mc) (r2 : CVal K (He.ga K (Str.ofString z)) mc "__init__" (.ref f) (.ref f)) (hmg : mg (Str.ofString z) = some (.ref (He.ga K (Str.ofString z)))) (S : FnScope N ps scope) (hN : c.N = N) (hsc : c.sc = scope) (hts : c.ts = scope)
    (m : ModOk P w K mg base k (gN defs ei km) c) (hi : ∀ z n, c.bas.contains (z, n) = true → IniM P w K mg base k (gN defs ei km) z n) (hb : embIs c d.body body = true) (hnl : N.length = d.nl) (hnp : ps.length = d.np) (hd : defs.lookup (z ++ ".__init__") = some d) (hini : isIni d.body = true) (hn : n + 1 = d.np)
    (b : Binds K fd ps []) : IniM P w K mg base (k + 1) (gN defs ei (km + 1)) z n :=
  ⟨f, fd, ps, [], [], _, mc, r1, r2, hmg, F.kp, b, .nil, ini_ok F S hN hsc hts m hi hb hnl hnp, ini_sp hd hini hn⟩
/-- a method -/
theorem met_m {defs : List (String × Df)} {ei : EIs} {z mn : String} {N ps : List Str} {d : Df} {km n : Nat} (F : FunD K x qual params body scope [] kws f fd) (cl : Cls K (He.ga K (Str.ofString z))) (M : Meth K (He.ga K (Str.ofString z)) (Str.ofString mn) f) (S : FnScope N ps scope) (hN : c.N = N) (hsc : c.sc = scope) (hts : c.ts = scope)
    (m : ModOk P w K mg base k (gN defs ei km) c) (hb : embSs c d.body body = true) (hnl : N.length = d.nl) (hnp : ps.length = d.np) (hd : defs.lookup (z ++ "." ++ mn) = some d) (hdf : d.dfl = []) (hn : n + 1 = d.np)
    (b : Binds K fd ps []) : MetM P w K mg base (k + 1) (gN defs ei (km + 1)) z mn n := by
  refine ⟨f, fd, ps, [], [], _, cl, M, b, .nil, fn_ok F S hN hsc hts m hb hnl hnp, fun vs H Q E hl h => ?_⟩
  obtain ⟨Fh, xs, sF, rp, q⟩ := h
  rw [List.append_nil]
  have hx : xs.length = d.np := by rw [rp.len, hl, hn]
  refine ⟨hl.trans hn, Fh, xs, sF, rp, ?_⟩
  have q : RH (mirN defs (km + 1) (z ++ "." ++ mn) xs) (fun val => ∀ F' H' v, Grow Fh F' H H' → VR K F' H H' val v → Q v H') (ErW (gN defs ei (km + 1)) E H) := q
  rw [mirN_run hd] at q
  unfold run at q
  rw [if_neg (by rw [isIni_of hb]; exact Bool.false_ne_true), hx, hdf, if_pos ⟨Nat.le_refl _, Nat.le_refl _⟩] at q
  rw [List.drop_nil, List.append_nil] at q
  exact q
end
end Fv
end
section
set_option maxHeartbeats 4000000
namespace Fv
open PySem PySem.Spec PyProof.Rows L2
section
variable {P : Program} {w : World} {K : PySem.W.Frag} {mg : Str → Option Value} {base : Heap} {k : Nat} {g : Gv}
theorem conNil : ∀ (x : Str) (v : Gc), ([] : List (Str × Gc)).lookup x = some v → ∃ u, mg x = some u ∧ (match v with | .int i => RelV (.int i) u | .str s => RelV (.str s) u) := fun _ _ h => nomatch h
theorem conCons {y : Str} {z : Gc} {l : List (Str × Gc)} (h : ∃ u, mg y = some u ∧ (match z with | .int i => RelV (.int i) u | .str s => RelV (.str s) u))
    (t : ∀ (x : Str) (v : Gc), l.lookup x = some v → ∃ u, mg x = some u ∧ (match v with | .int i => RelV (.int i) u | .str s => RelV (.str s) u)) :
    ∀ (x : Str) (v : Gc), ((y, z) :: l).lookup x = some v → ∃ u, mg x = some u ∧ (match v with | .int i => RelV (.int i) u | .str s => RelV (.str s) u) := fun x v e => by
  rw [List.lookup_cons] at e
  by_cases hx : x = y
  · subst hx
    rw [beq_self_eq_true] at e
    cases e
    exact h
  · have hb : (x == y) = false := by simpa using hx
    rw [hb] at e
    exact t x v e
theorem frNil : ∀ x : Str, ([] : List Str).contains x = true → mg x = none := fun _ h => nomatch h
theorem frCons {y : Str} {l : List Str} (h : mg y = none) (t : ∀ x, l.contains x = true → mg x = none) : ∀ x, (y :: l).contains x = true → mg x = none := fun x e => by
  rw [List.contains_cons] at e
  by_cases hx : x = y
  · subst hx; exact h
  · have hb : (x == y) = false := by simpa using hx
    rw [hb] at e
    exact t x e
theorem fnNil : ∀ (f : String) (n : Nat), ([] : List (String × Nat)).contains (f, n) = true → FnM P w K mg base k g f n := fun _ _ h => nomatch h
theorem fnCons {f0 : String} {n0 : Nat} {l : List (String × Nat)} (h : FnM P w K mg base k g f0 n0) (t : ∀ (f : String) (n : Nat), l.contains (f, n) = true → FnM P w K mg base k g f n) : ∀ (f : String) (n : Nat), ((f0, n0) :: l).contains (f, n) = true → FnM P w K mg base k g f n := fun f n e => by
  rw [List.contains_cons] at e
  by_cases hx : f = f0 ∧ n = n0
  · obtain ⟨rfl, rfl⟩ := hx; exact h
  · have hb : ((f, n) == (f0, n0)) = false := by
      rw [beq_eq_false_iff_ne]
      intro z
      cases z
      exact hx ⟨rfl, rfl⟩
    rw [hb] at e
    exact t f n e
theorem FnM.lift {defs : List (String × Df)} {ei : EIs} {f : String} {n j a b : Nat} (h : j ≤ k) (e : a = b) (F : FnM P w K mg base j (gN defs ei a) f n) : FnM P w K mg base k (gN defs ei b) f n := by
  subst e
  obtain ⟨ad, fd, ps, dvs, ds, sp, h1, h2, h3, h4, h5, h6⟩ := F.ex
  exact ⟨ad, fd, ps, dvs, ds, sp, h1, h2, h3, h4, h5.mono h, h6⟩
theorem FnM.cast {defs : List (String × Df)} {ei : EIs} {f : String} {n j : Nat} (e : j = k) (h : FnM P w K mg base j (gN defs ei j) f n) : FnM P w K mg base k (gN defs ei k) f n := by subst e; exact h
/-- the law at its script -/
theorem sp_law {d : Df} {H : Hp} {a : Addr} {ns : List Int} (hnp : d.np = 1) (hS : SqL K H a (ns.map V.int)) (h : runA g.Γ d [.scr ns] = .ok (.d (.bl true))) : spD K g d [.ref a] H (fun v _ => v = .bl true) fun _ _ _ => False := by
  refine ⟨hnp.symm, H, [.scr ns], Same.refl H, RpL.cons (by rw [Rp]; exact ⟨a, rfl, hS⟩) RpL.nil, ?_⟩
  rw [h]
  exact fun F' H' v _ r => r
theorem walk_bits {l : PySem.W.OpenLaw} {n k : Nat} {q : Program} {loose : List Str} {XP : (Str → Option Value) → Heap → Prop} {YP : World → Heap → Prop} {d : DefRec} {CX : World → CXT} {x : Str}
    (hn : l.most = some n) (hn2 : n ≤ sizeLine) (hdf : d.params.defaults = []) (hr : Room k callerA)
    (F : ∀ (w : World) (mg : Str → Option Value) (fa : Addr) (h : Heap), YP w h → h.Ns mainGlobals mg → mg d.name = some (.ref fa) →
      ∃ (K : PySem.W.Frag) (fd : FuncData) (sp : Sp), K.In h ∧ (∀ (s : Shared) (u : Value), BindsTo s fd ⟨[u], []⟩ [(x, u)]) ∧
        (∀ (H : Hp) (a : Addr) (ns : List Int), ns.length ≤ n → (∀ z ∈ ns, Builtin.Int.intBits z ≤ 1048576) → SqL K H a (ns.map V.int) → sp [.ref a] H (fun v _ => v = .bl true) fun _ _ _ => False) ∧
        ∀ base : Heap, K.In base → base.Ns mainGlobals mg → FnOk l.prog w K mg base (CX w) k fa fd [x] sp)
    (hCX : ∀ (w : World) (H : Hp) (s : Shared) (e : Value) (s' : Shared), CX w [] H s (fun _ _ _ => False) e s' → False) :
    PySem.W.WalkO q loose XP YP l.row.toRowW d [] (fun f vs => PySem.call f vs) := by
  refine Att.attach_callB hn hdf fun w s₀ s₁ mg mb fa o pm cd doc a vs ns G Y ho hd hcd hmg hobj hints hlen hbits hg => ?_
  obtain ⟨K, fd, sp, KX, hb, hsp, hF⟩ := F w mg fa _ Y G.T.g hmg
  exact law_call KX G.T.g G.T.b G.T.builtins G.T.nolimit hg hobj hints (Nat.le_trans hlen hn2) hr hF hb (fun H hO hS => hsp H a ns hlen hbits hS) fun H e s' => hCX w H s₁ e s'
theorem noCX (w : World) (H : Hp) (s : Shared) (e : Value) (s' : Shared) (h : L2.CX P w [] H s (fun _ _ _ => False) e s') : False := by
  obtain ⟨a, B, H', cls, d, _, _, _, _, _, _, _, hE⟩ := h
  exact hE
end
end Fv
end
section
namespace Fv
open PySem PySem.Spec PyProof.Rows L2
abbrev AlF : Type := He.AlD × Bool
def obsF (n : Nat) (fa : List He.Fa) (fn : List He.DefD) (bs : PySem.W.Frag → Bool) (g : Addr → Option Obj) : AlF := (He.obsD fa fn (He.frG g (He.asD g n ++ [cStatics])), bs (He.frG g (He.asD g n ++ [cStatics])))
def hookF (n : Nat) (fa : List He.Fa) (fn : List He.DefD) (bs : PySem.W.Frag → Bool) : PySem.W.Hook where
  α := AlF
  obs := fun s => obsF n fa fn bs s.heap.get?
  val := fun _ => (He.valD fn, true)
  says := fun _ h => ∃ K : PySem.W.Frag, K.In h ∧ (He.SaysD fa fn K ∧ bs K = true)
  of := fun _ _ e => ⟨_, He.frG_in, congrArg Prod.fst e, congrArg Prod.snd e⟩
  keeps := fun _ _ _ ⟨K, hK, c⟩ k => ⟨K, PySem.W.Frag.In.keeps hK k, c⟩
theorem obsF_eq {n : Nat} {fa : List He.Fa} {fn : List He.DefD} {bs : PySem.W.Frag → Bool} {g : Addr → Option Obj} {s : Shared} (h : ∀ a, g a = s.heap.get? a) : obsF n fa fn bs g = (hookF n fa fn bs).obs s := by
  have e : g = s.heap.get? := funext h
  rw [e] <;> rfl
/-- what is looked at for Base.__init__(self, ..) -/
def basB (b : String) (K : PySem.W.Frag) : Bool := PySem.W.readsIn K (He.ga K (Str.ofString b)) (.type "type") && (decide (PySem.W.specialIn K (.ref (He.ga K (Str.ofString b))) "__getattribute__" = some (some (.builtin "type.__getattribute__"))) &&
  (match PySem.W.findCls K (.ref (He.ga K (Str.ofString b))) (.type "type") "__init__" with
  | some (.val (.ref f)) => decide (f = He.fAd K (Str.ofString b, some "__init__"))
  | _ => false))
theorem basB_ok {b : String} {K : PySem.W.Frag} (h : basB b K = true) : ClX.CRead K (He.ga K (Str.ofString b)) (.type "type") ∧ ClX.CVal K (He.ga K (Str.ofString b)) (.type "type") "__init__" (.ref (He.fAd K (Str.ofString b, some "__init__"))) (.ref (He.fAd K (Str.ofString b, some "__init__"))) := by
  unfold basB at h
  rw [Bool.and_eq_true, Bool.and_eq_true] at h
  obtain ⟨h1, h2, h3⟩ := h
  refine ⟨⟨h1, of_decide_eq_true h2⟩, ?_, rfl⟩
  split at h3
  · rename_i f e
    rw [e, of_decide_eq_true h3]
  · cases h3
theorem nilP {α : Type} [BEq α] {P : α → Prop} : ∀ x, ([] : List α).contains x = true → P x := fun _ h => nomatch h
theorem consP {α : Type} [BEq α] [LawfulBEq α] {P : α → Prop} {a : α} {l : List α} (h : P a) (t : ∀ x, l.contains x = true → P x) : ∀ x, (a :: l).contains x = true → P x := fun x e => by
  rw [List.contains_cons] at e
  by_cases hx : x = a
  · rw [hx]; exact h
  · have hb : (x == a) = false := by simpa using hx
    rw [hb] at e
    exact t x e
section
variable {P : Program} {w : World} {K : PySem.W.Frag} {mg : Str → Option Value} {base : Heap} {k : Nat} {g : Gv}
theorem pair2 {α β : Type} [BEq α] [BEq β] [LawfulBEq α] [LawfulBEq β] {Q : α → β → Prop} {a : α} {b : β} {l : List (α × β)} (h : Q a b) (t : ∀ x y, l.contains (x, y) = true → Q x y) : ∀ x y, ((a, b) :: l).contains (x, y) = true → Q x y := fun x y e =>
  consP (P := fun z : α × β => Q z.1 z.2) h (fun z => t z.1 z.2) (x, y) e
theorem pair3 {α β γ : Type} [BEq α] [BEq β] [BEq γ] [LawfulBEq α] [LawfulBEq β] [LawfulBEq γ] {Q : α → β → γ → Prop} {a : α} {b : β} {c : γ} {l : List (α × β × γ)} (h : Q a b c) (t : ∀ x y z, l.contains (x, y, z) = true → Q x y z) : ∀ x y z, ((a, b, c) :: l).contains (x, y, z) = true → Q x y z := fun x y z e =>
  consP (P := fun u : α × β × γ => Q u.1 u.2.1 u.2.2) h (fun u => t u.1 u.2.1 u.2.2) (x, y, z) e
theorem atNil : ∀ (z n : String), ([] : List (String × String)).contains (z, n) = true → Cls K (He.ga K (Str.ofString z)) ∧ NoAttr K (He.ga K (Str.ofString z)) (Str.ofString n) := fun _ _ h => nomatch h
theorem atCons {a b : String} {l : List (String × String)} (h : Cls K (He.ga K (Str.ofString a)) ∧ NoAttr K (He.ga K (Str.ofString a)) (Str.ofString b))
    (t : ∀ z n, l.contains (z, n) = true → Cls K (He.ga K (Str.ofString z)) ∧ NoAttr K (He.ga K (Str.ofString z)) (Str.ofString n)) : ∀ z n, ((a, b) :: l).contains (z, n) = true → Cls K (He.ga K (Str.ofString z)) ∧ NoAttr K (He.ga K (Str.ofString z)) (Str.ofString n) :=
  pair2 (Q := fun z n => Cls K (He.ga K (Str.ofString z)) ∧ NoAttr K (He.ga K (Str.ofString z)) (Str.ofString n)) h t
theorem meNil : ∀ (z m : String) (n : Nat), ([] : List (String × String × Nat)).contains (z, m, n) = true → MetM P w K mg base k g z m n := fun _ _ _ h => nomatch h
theorem meCons {a b : String} {c : Nat} {l : List (String × String × Nat)} (h : MetM P w K mg base k g a b c) (t : ∀ z m n, l.contains (z, m, n) = true → MetM P w K mg base k g z m n) : ∀ z m n, ((a, b, c) :: l).contains (z, m, n) = true → MetM P w K mg base k g z m n := pair3 h t
theorem mksNil : ∀ (z : String) (n : Nat), ([] : List (String × Nat)).contains (z, n) = true → MkM P w K mg base k g z n := fun _ _ h => nomatch h
theorem mksCons {a : String} {b : Nat} {l : List (String × Nat)} (h : MkM P w K mg base k g a b) (t : ∀ z n, l.contains (z, n) = true → MkM P w K mg base k g z n) : ∀ z n, ((a, b) :: l).contains (z, n) = true → MkM P w K mg base k g z n := pair2 h t
theorem basNil : ∀ (z : String) (n : Nat), ([] : List (String × Nat)).contains (z, n) = true → IniM P w K mg base k g z n := fun _ _ h => nomatch h
theorem basCons {a : String} {b : Nat} {l : List (String × Nat)} (h : IniM P w K mg base k g a b) (t : ∀ z n, l.contains (z, n) = true → IniM P w K mg base k g z n) : ∀ z n, ((a, b) :: l).contains (z, n) = true → IniM P w K mg base k g z n := pair2 h t
theorem MetM.lift {defs : List (String × Df)} {ei : EIs} {f q : String} {n j a b : Nat} (h : j ≤ k) (e : a = b) (F : MetM P w K mg base j (gN defs ei a) f q n) : MetM P w K mg base k (gN defs ei b) f q n := by
  subst e
  obtain ⟨f, fd, ps, dvs, ds, sp, h1, h2, h3, h4, h5, h6⟩ := F.ex
  exact ⟨f, fd, ps, dvs, ds, sp, h1, h2, h3, h4, h5.mono h, h6⟩
theorem MkM.lift {defs : List (String × Df)} {ei : EIs} {f : String} {n j a b : Nat} (h : j ≤ k) (e : a = b) (F : MkM P w K mg base j (gN defs ei a) f n) : MkM P w K mg base k (gN defs ei b) f n := by
  subst e
  obtain ⟨f, fd, ps, i, dvs, ds, sp, h0, h1, h2, h3, h4, h5, h6⟩ := F.ex
  exact ⟨f, fd, ps, i, dvs, ds, sp, Nat.le_trans h0 h, h1, h2, h3, h4, h5, h6⟩
theorem IniM.lift {defs : List (String × Df)} {ei : EIs} {f : String} {n j a b : Nat} (h : j ≤ k) (e : a = b) (F : IniM P w K mg base j (gN defs ei a) f n) : IniM P w K mg base k (gN defs ei b) f n := by
  subst e
  obtain ⟨f, fd, ps, dvs, ds, sp, mc, r1, r2, h1, h2, h3, h4, h5, h6⟩ := F.ex
  exact ⟨f, fd, ps, dvs, ds, sp, mc, r1, r2, h1, h2, h3, h4, h5.mono h, h6⟩
/-- at level 0 nothing is promised -/
theorem fn_bad {defs : List (String × Df)} {ei : EIs} {name : String} {n : Nat} {x qual : Str} {params : Arguments} {body : List Stmt} {scope : Scope} {dvs : List V} {kws : List (Str × V)} {f : Addr} {fd : FuncData} {ps : List Str} (F : FunD K x qual params body scope dvs kws f fd) (hmg : mg (Str.ofString name) = some (.ref f)) (b : Binds K fd ps []) : FnM P w K mg base 0 (gN defs ei 0) name n :=
  ⟨f, fd, ps, [], [], fun _ _ _ _ => False, hmg, F.kp, b, .nil, ⟨fun _ _ _ _ h => h.elim, fun _ _ _ _ _ _ _ _ _ _ _ _ _ h => h.elim⟩, fun vs H Q E _ h => by
    obtain ⟨Fh, xs, sF, rp, q⟩ := h
    exact q⟩
end
end Fv
end
section
namespace Fv
open PySem
variable {Γ : Fns} {S : Sg}
theorem via {α : Sort _} {a b : α} (h : a = b) : a = b := h
@[simp] theorem look_fz {x : D} {r : List Sl} : Sg.look (.fz x :: r) 0 = .ok x := via rfl
@[simp] theorem look_own {x : List D} {r : List Sl} : Sg.look (.own x :: r) 0 = .ok (.lst x) := via rfl
@[simp] theorem look_succ {s : Sl} {r : List Sl} {n : Nat} : Sg.look (s :: r) (n + 1) = Sg.look r n := via rfl
@[simp] theorem get_fz {x : D} {r : List Sl} : Sg.get (.fz x :: r) 0 = .ok x := via rfl
@[simp] theorem get_succ {s : Sl} {r : List Sl} {n : Nat} : Sg.get (s :: r) (n + 1) = Sg.get r n := via rfl
@[simp] theorem isOwn_fz {x : D} {r : List Sl} : Sg.isOwn (.fz x :: r) 0 = false := via rfl
@[simp] theorem isOwn_own {x : List D} {r : List Sl} : Sg.isOwn (.own x :: r) 0 = true := via rfl
@[simp] theorem isOwn_succ {s : Sl} {r : List Sl} {n : Nat} : Sg.isOwn (s :: r) (n + 1) = Sg.isOwn r n := via rfl
@[simp] theorem frz_fz {x : D} {r : List Sl} : frzS (.fz x :: r) 0 = .fz x :: r := via rfl
@[simp] theorem frz_own {x : List D} {r : List Sl} : frzS (.own x :: r) 0 = .fz (.lst x) :: r := via rfl
@[simp] theorem frz_no {r : List Sl} : frzS (.no :: r) 0 = .no :: r := via rfl
@[simp] theorem frz_succ {s : Sl} {r : List Sl} {n : Nat} : frzS (s :: r) (n + 1) = s :: frzS r n := by
  unfold frzS
  rw [List.getElem?_cons_succ]
  cases r[n]? with
  | none => rfl
  | some x => cases x <;> rfl
@[simp] theorem sl_d {x : D} : (Val.d x).sl = .fz x := via rfl
@[simp] theorem sl_fr {x : List D} : (Val.fr x).sl = .own x := via rfl
@[simp] theorem D_d {x : D} : (Val.d x).D = x := via rfl
@[simp] theorem D_fr {xs : List D} : (Val.fr xs).D = .lst xs := via rfl
@[simp] theorem evL_var {i : Nat} : evL Γ (.var i) S = S.look i := via rfl
@[simp] theorem evL_cst {x : D} : evL Γ (.cst x) S = .ok x := via rfl
theorem evL_of {e : Ex} (h : isVar e = none) : evL Γ e S = (ev Γ e S >>= fun v => .ok v.D) := by
  cases e <;> first | rfl | cases h
@[simp] theorem evL_bin {o : BOp} {a b : Ex} : evL Γ (.bin o a b) S = (ev Γ (.bin o a b) S >>= fun v => .ok v.D) := via rfl
@[simp] theorem evL_lrg1 {b : Ex} : evL Γ (.lrg1 b) S = (ev Γ (.lrg1 b) S >>= fun v => .ok v.D) := via rfl
@[simp] theorem evL_lrg {a b : Ex} : evL Γ (.lrg a b) S = (ev Γ (.lrg a b) S >>= fun v => .ok v.D) := via rfl
@[simp] theorem evL_cnt {a b : Ex} : evL Γ (.cnt a b) S = (ev Γ (.cnt a b) S >>= fun v => .ok v.D) := via rfl
@[simp] theorem evL_rev {a : Ex} : evL Γ (.rev a) S = (ev Γ (.rev a) S >>= fun v => .ok v.D) := via rfl
@[simp] theorem evL_neg {a : Ex} : evL Γ (.neg a) S = (ev Γ (.neg a) S >>= fun v => .ok v.D) := via rfl
@[simp] theorem evL_nt {a : Ex} : evL Γ (.nt a) S = (ev Γ (.nt a) S >>= fun v => .ok v.D) := via rfl
@[simp] theorem evL_cmp' {o : COp} {a b : Ex} : evL Γ (.cmp o a b) S = (ev Γ (.cmp o a b) S >>= fun v => .ok v.D) := via rfl
@[simp] theorem evL_chn' {o p : COp} {a b c : Ex} : evL Γ (.chn o p a b c) S = (ev Γ (.chn o p a b c) S >>= fun v => .ok v.D) := via rfl
@[simp] theorem evL_and {a b : Ex} : evL Γ (.and a b) S = (ev Γ (.and a b) S >>= fun v => .ok v.D) := via rfl
@[simp] theorem evL_or {a b : Ex} : evL Γ (.or a b) S = (ev Γ (.or a b) S >>= fun v => .ok v.D) := via rfl
@[simp] theorem evL_tup {es : Exs} : evL Γ (.tup es) S = (ev Γ (.tup es) S >>= fun v => .ok v.D) := via rfl
@[simp] theorem evL_lst {es : Exs} : evL Γ (.lst es) S = (ev Γ (.lst es) S >>= fun v => .ok v.D) := via rfl
@[simp] theorem evL_sub {a b : Ex} : evL Γ (.sub a b) S = (ev Γ (.sub a b) S >>= fun v => .ok v.D) := via rfl
@[simp] theorem evL_slc {a b c : Ex} : evL Γ (.slc a b c) S = (ev Γ (.slc a b c) S >>= fun v => .ok v.D) := via rfl
@[simp] theorem evL_slcL {a b : Ex} : evL Γ (.slcL a b) S = (ev Γ (.slcL a b) S >>= fun v => .ok v.D) := via rfl
@[simp] theorem evL_slcH {a b : Ex} : evL Γ (.slcH a b) S = (ev Γ (.slcH a b) S >>= fun v => .ok v.D) := via rfl
@[simp] theorem evL_call {f : String} {es : Exs} : evL Γ (.call f es) S = (ev Γ (.call f es) S >>= fun v => .ok v.D) := via rfl
@[simp] theorem evL_bi {b : Bi} {es : Exs} : evL Γ (.bi b es) S = (ev Γ (.bi b es) S >>= fun v => .ok v.D) := via rfl
@[simp] theorem evL_isa {a : Ex} {c : String} : evL Γ (.isa a c) S = (ev Γ (.isa a c) S >>= fun v => .ok v.D) := via rfl
@[simp] theorem evL_lc {o : List (Str × Nat)} {tg : Tg} {it : It} {c e : Ex} : evL Γ (.lc o tg it c e) S = (ev Γ (.lc o tg it c e) S >>= fun v => .ok v.D) := via rfl
@[simp] theorem evL_fld {cs : List String} {a : Ex} {n : String} : evL Γ (.fld cs a n) S = (ev Γ (.fld cs a n) S >>= fun v => .ok v.D) := via rfl
@[simp] theorem evL_mth {cs : List String} {a : Ex} {n : String} {es : Exs} : evL Γ (.mth cs a n es) S = (ev Γ (.mth cs a n es) S >>= fun v => .ok v.D) := via rfl
@[simp] theorem evL_mk {c : String} {es : Exs} : evL Γ (.mk c es) S = (ev Γ (.mk c es) S >>= fun v => .ok v.D) := via rfl
@[simp] theorem evL_m1 {m : M1} {a b : Ex} : evL Γ (.m1 m a b) S = (ev Γ (.m1 m a b) S >>= fun v => .ok v.D) := via rfl
@[simp] theorem ev_fld {cs : List String} {a : Ex} {n : String} : ev Γ (.fld cs a n) S = (evL Γ a S >>= fun x => fldD cs n x >>= fun y => .ok (.d y)) := via rfl
@[simp] theorem ev_mth {cs : List String} {a : Ex} {m : String} {es : Exs} : ev Γ (.mth cs a m es) S = (evL Γ a S >>= fun x => clsOf cs m x >>= fun c => evsL Γ es S >>= fun xs => Γ (c ++ "." ++ m) (x :: xs) >>= fun v => kept (anyOwn es S) v) := via rfl
@[simp] theorem ev_mk {c : String} {es : Exs} : ev Γ (.mk c es) S = (evs Γ es S >>= fun xs => (Γ (c ++ ".__init__") (.ins c [] [] :: xs)).noEr >>= fun v => newD c v) := via rfl
@[simp] theorem ev_m1 {m : M1} {a b : Ex} : ev Γ (.m1 m a b) S = (evL Γ a S >>= fun x => x.str? >>= fun s => evL Γ b S >>= fun y => m1D m s y) := via rfl
@[simp] theorem str?_str {s : Tx} : (D.str s).str? = .ok s := via rfl
@[simp] theorem ev_var {i : Nat} : ev Γ (.var i) S = (S.get i >>= fun x => .ok (.d x)) := via rfl
@[simp] theorem ev_cst {x : D} : ev Γ (.cst x) S = .ok (.d x) := via rfl
@[simp] theorem ev_bin {o : BOp} {a b : Ex} : ev Γ (.bin o a b) S = (evL Γ a S >>= fun x => evL Γ b S >>= fun y => binD o x y) := via rfl
@[simp] theorem ev_lrg1 {b : Ex} : ev Γ (.lrg1 b) S = (evL Γ b S >>= fun y => y.int? >>= fun j => lrgD 0 j) := via rfl
@[simp] theorem ev_lrg {a b : Ex} : ev Γ (.lrg a b) S = (evL Γ a S >>= fun x => x.int? >>= fun i => evL Γ b S >>= fun y => y.int? >>= fun j => lrgD i j) := via rfl
@[simp] theorem ev_cnt {a b : Ex} : ev Γ (.cnt a b) S = (evL Γ a S >>= fun x => lsI x >>= fun ns => evL Γ b S >>= fun y => y.int? >>= fun k => cntD ns k) := via rfl
@[simp] theorem ev_rev {a : Ex} : ev Γ (.rev a) S = (evL Γ a S >>= fun x => revD x) := via rfl
@[simp] theorem revD_lst {xs : List D} : revD (.lst xs) = .ok (.fr xs.reverse) := via rfl
@[simp] theorem ev_neg {a : Ex} : ev Γ (.neg a) S = (evL Γ a S >>= fun x => x.int? >>= fun i => .ok (.d (.int (-i)))) := via rfl
@[simp] theorem ev_nt {a : Ex} : ev Γ (.nt a) S = (evL Γ a S >>= fun x => x.truth >>= fun k => .ok (.d (.bl (!k)))) := via rfl
@[simp] theorem ev_cmp {o : COp} {a b : Ex} : ev Γ (.cmp o a b) S = (evL Γ a S >>= fun x => evL Γ b S >>= fun y => cmpD o x y >>= fun c => .ok (.d (.bl c))) := via rfl
/-- a test's choice -/
def pick {α : Type} (k : Bool) (a b : α) : α := if k then a else b
@[simp] theorem pick_t {α : Type} {a b : α} : pick true a b = a := via rfl
@[simp] theorem pick_f {α : Type} {a b : α} : pick false a b = b := via rfl
@[simp] theorem ev_chn {o p : COp} {a b c : Ex} : ev Γ (.chn o p a b c) S = (evL Γ a S >>= fun x => evL Γ b S >>= fun y => cmpD o x y >>= fun k => pick k (evL Γ c S >>= fun z => cmpD p y z >>= fun l => .ok (.d (.bl l))) (.ok (.d (.bl false)))) := via rfl
@[simp] theorem ev_and {a b : Ex} : ev Γ (.and a b) S = (ev Γ a S >>= fun v => v.D.truth >>= fun k => pick k (ev Γ b S) (.ok v)) := via rfl
@[simp] theorem ev_or {a b : Ex} : ev Γ (.or a b) S = (ev Γ a S >>= fun v => v.D.truth >>= fun k => pick k (.ok v) (ev Γ b S)) := via rfl
/-- a row of values, short enough -/
def lenR {α : Type} (n : Nat) (r : R α) : R α := if n ≤ LINE then r else .bad
@[simp] theorem lenR_ok {α : Type} {n : Nat} {r : R α} (h : n ≤ 16777216) : lenR n r = r := if_pos h
@[simp] theorem ev_tup {es : Exs} : ev Γ (.tup es) S = (evs Γ es S >>= fun xs => lenR xs.length (.ok (.d (.tup xs)))) := via rfl
@[simp] theorem ev_lst {es : Exs} : ev Γ (.lst es) S = (evs Γ es S >>= fun xs => lenR xs.length (.ok (.fr xs))) := via rfl
@[simp] theorem ev_sub {a i : Ex} : ev Γ (.sub a i) S = (evL Γ a S >>= fun x => evL Γ i S >>= fun k => subD x k >>= fun y => .ok (.d y)) := via rfl
@[simp] theorem ev_slc {a lo hi : Ex} : ev Γ (.slc a lo hi) S = (evL Γ a S >>= fun x => evL Γ lo S >>= fun l => l.int? >>= fun i => evL Γ hi S >>= fun h => h.int? >>= fun j => slcD x (some i) (some j)) := via rfl
@[simp] theorem ev_slcL {a lo : Ex} : ev Γ (.slcL a lo) S = (evL Γ a S >>= fun x => evL Γ lo S >>= fun l => l.int? >>= fun i => slcD x (some i) none) := via rfl
@[simp] theorem ev_slcH {a hi : Ex} : ev Γ (.slcH a hi) S = (evL Γ a S >>= fun x => evL Γ hi S >>= fun h => h.int? >>= fun j => slcD x none (some j)) := via rfl
@[simp] theorem ev_call {f : String} {es : Exs} : ev Γ (.call f es) S = (evsL Γ es S >>= fun xs => Γ f xs >>= fun v => kept (anyOwn es S) v) := via rfl
@[simp] theorem ev_bi {b : Bi} {es : Exs} : ev Γ (.bi b es) S = (evsL Γ es S >>= fun xs => biD b xs) := by
  show (evsL Γ es S >>= fun xs => biD b xs >>= fun v => .ok v) = _
  cases evsL Γ es S with
  | ok xs => show (biD b xs >>= fun v => .ok v) = biD b xs; cases biD b xs <;> rfl
  | er _ _ => rfl
  | bad => rfl
@[simp] theorem ev_isa {a : Ex} {c : String} : ev Γ (.isa a c) S = (evL Γ a S >>= fun x => isaD x c >>= fun k => .ok (.d (.bl k))) := via rfl
noncomputable def elt (Γ : Fns) (e : Ex) (S : Sg) : R D := ev Γ e S >>= fun v => .ok v.D
@[simp] theorem elt_def {e : Ex} : elt Γ e S = (ev Γ e S >>= fun v => .ok v.D) := via rfl
@[simp] theorem ev_lc {o : List (Str × Nat)} {tg : Tg} {it : It} {c e : Ex} : ev Γ (.lc o tg it c e) S = (evI Γ it S >>= fun xs => lenR xs.length (compL tg (wipeS S (o.map (·.2))) (evT Γ c) (elt Γ e) xs [] >>= fun ys => .ok (.fr ys))) := via rfl
@[simp] theorem evs_nil : evs Γ .nil S = .ok [] := via rfl
@[simp] theorem evs_cons {e : Ex} {r : Exs} : evs Γ (.cons e r) S = (ev Γ e S >>= fun v => evs Γ r S >>= fun xs => .ok (v.D :: xs)) := via rfl
@[simp] theorem evsL_nil : evsL Γ .nil S = .ok [] := via rfl
@[simp] theorem evsL_cons {e : Ex} {r : Exs} : evsL Γ (.cons e r) S = (evL Γ e S >>= fun x => evsL Γ r S >>= fun xs => .ok (x :: xs)) := via rfl
@[simp] theorem evI_seq {e : Ex} : evI Γ (.seq e) S = (ev Γ e S >>= fun v => v.D.seq?) := via rfl
@[simp] theorem evI_enum {e : Ex} : evI Γ (.enum e) S = (ev Γ e S >>= fun v => enumD v.D) := via rfl
@[simp] theorem enumD_lst {xs : List D} : enumD (.lst xs) = .ok (numD 0 xs) := via rfl
@[simp] theorem evI_rng {a : Ex} : evI Γ (.rng a) S = (evL Γ a S >>= fun x => x.int? >>= fun j => rngD 0 j) := via rfl
@[simp] theorem evI_rng2 {a b : Ex} : evI Γ (.rng2 a b) S = (evL Γ a S >>= fun x => x.int? >>= fun i => evL Γ b S >>= fun y => y.int? >>= fun j => rngD i j) := via rfl
@[simp] theorem evI_rng3 {a b c : Ex} : evI Γ (.rng3 a b c) S = (evL Γ a S >>= fun x => x.int? >>= fun i => evL Γ b S >>= fun y => y.int? >>= fun j => evL Γ c S >>= fun z => z.int? >>= fun k => rng3D i j k) := via rfl
@[simp] theorem evI_revs {e : Ex} : evI Γ (.revs e) S = (ev Γ e S >>= fun v => revsD v.D) := via rfl
@[simp] theorem revsD_lst {xs : List D} : revsD (.lst xs) = .ok xs.reverse := via rfl
@[simp] theorem revsD_tup {xs : List D} : revsD (.tup xs) = .ok xs.reverse := via rfl
@[simp] theorem evT_def {e : Ex} : evT Γ e S = (evL Γ e S >>= fun x => x.truth) := via rfl
@[simp] theorem anyOwn_nil : anyOwn .nil S = false := via rfl
@[simp] theorem anyOwn_cons {e : Ex} {r : Exs} : anyOwn (.cons e r) S = (ownE e S || anyOwn r S) := via rfl
@[simp] theorem ownE_var {i : Nat} : ownE (.var i) S = S.isOwn i := via rfl
theorem ownE_no {e : Ex} (h : isVar e = none) : ownE e S = false := by cases e <;> first | rfl | cases h
@[simp] theorem ownE_cst {x : D} : ownE (.cst x) S = false := via rfl
@[simp] theorem ownE_bin {o : BOp} {a b : Ex} : ownE (.bin o a b) S = false := via rfl
@[simp] theorem ownE_lrg1 {b : Ex} : ownE (.lrg1 b) S = false := via rfl
@[simp] theorem ownE_lrg {a b : Ex} : ownE (.lrg a b) S = false := via rfl
@[simp] theorem ownE_cnt {a b : Ex} : ownE (.cnt a b) S = false := via rfl
@[simp] theorem ownE_rev {a : Ex} : ownE (.rev a) S = false := via rfl
@[simp] theorem ownE_neg {a : Ex} : ownE (.neg a) S = false := via rfl
@[simp] theorem ownE_nt {a : Ex} : ownE (.nt a) S = false := via rfl
@[simp] theorem ownE_cmp {o : COp} {a b : Ex} : ownE (.cmp o a b) S = false := via rfl
@[simp] theorem ownE_and {a b : Ex} : ownE (.and a b) S = false := via rfl
@[simp] theorem ownE_or {a b : Ex} : ownE (.or a b) S = false := via rfl
@[simp] theorem ownE_tup {es : Exs} : ownE (.tup es) S = false := via rfl
@[simp] theorem ownE_lst {es : Exs} : ownE (.lst es) S = false := via rfl
@[simp] theorem ownE_sub {a b : Ex} : ownE (.sub a b) S = false := via rfl
@[simp] theorem ownE_slc {a b c : Ex} : ownE (.slc a b c) S = false := via rfl
@[simp] theorem ownE_slcL {a b : Ex} : ownE (.slcL a b) S = false := via rfl
@[simp] theorem ownE_slcH {a b : Ex} : ownE (.slcH a b) S = false := via rfl
@[simp] theorem ownE_call {f : String} {es : Exs} : ownE (.call f es) S = false := via rfl
@[simp] theorem ownE_bi {b : Bi} {es : Exs} : ownE (.bi b es) S = false := via rfl
@[simp] theorem ownE_isa {a : Ex} {c : String} : ownE (.isa a c) S = false := via rfl
@[simp] theorem ownE_lc {o : List (Str × Nat)} {tg : Tg} {it : It} {c e : Ex} : ownE (.lc o tg it c e) S = false := via rfl
@[simp] theorem ownE_fld {cs : List String} {a : Ex} {n : String} : ownE (.fld cs a n) S = false := via rfl
@[simp] theorem ownE_mth {cs : List String} {a : Ex} {n : String} {es : Exs} : ownE (.mth cs a n es) S = false := via rfl
@[simp] theorem ownE_mk {c : String} {es : Exs} : ownE (.mk c es) S = false := via rfl
@[simp] theorem ownE_m1 {m : M1} {a b : Ex} : ownE (.m1 m a b) S = false := via rfl
@[simp] theorem kept_no {v : Val} : kept false v = .ok v := via rfl
@[simp] theorem kept_flat {v : Val} {b : Bool} (h : v.flat = true) : kept b v = .ok v := by unfold kept; rw [h]; simp
@[simp] theorem flat_bl {b : Bool} : (Val.d (.bl b)).flat = true := via rfl
@[simp] theorem flat_int {b : Int} : (Val.d (.int b)).flat = true := via rfl
@[simp] theorem flat_str {b : Tx} : (Val.d (.str b)).flat = true := via rfl
@[simp] theorem flat_non : (Val.d .non).flat = true := via rfl
@[simp] theorem int?_int {i : Int} : (D.int i).int? = .ok i := via rfl
@[simp] theorem seq?_lst {xs : List D} : (D.lst xs).seq? = .ok xs := via rfl
@[simp] theorem seq?_tup {xs : List D} : (D.tup xs).seq? = .ok xs := via rfl
@[simp] theorem seq?_str {s : Tx} : (D.str s).seq? = .ok (s.map fun c => .str [c]) := via rfl
@[simp] theorem seq?_scr {ns : List Int} : (D.scr ns).seq? = .ok (ns.map .int) := via rfl
@[simp] theorem truth_bl {b : Bool} : (D.bl b).truth = .ok b := via rfl
@[simp] theorem truth_non : D.non.truth = .ok false := via rfl
@[simp] theorem truth_int {i : Int} : (D.int i).truth = .ok (i != 0) := via rfl
@[simp] theorem truth_lst {xs : List D} : (D.lst xs).truth = .ok (!xs.isEmpty) := via rfl
@[simp] theorem truth_tup {xs : List D} : (D.tup xs).truth = .ok (!xs.isEmpty) := via rfl
@[simp] theorem add_int {i j : Int} : binD .add (.int i) (.int j) = .ok (.d (.int (i + j))) := via rfl
@[simp] theorem sub_int {i j : Int} : binD .sub (.int i) (.int j) = .ok (.d (.int (i - j))) := via rfl
@[simp] theorem mul_lit {i j : Int} (h : i.natAbs < 1606938044258990275541962092341162602522202993782792835301376) (g : j.natAbs < 1606938044258990275541962092341162602522202993782792835301376) : binD .mul (.int i) (.int j) = .ok (.d (.int (i * j))) := by
  have lg : ∀ n : Nat, n < 1606938044258990275541962092341162602522202993782792835301376 → n.log2 ≤ 200 := fun n hn => by
    by_cases hz : n = 0
    · rw [hz]; simp
    · have := (Nat.log2_lt (n := n) (k := 200) hz).mpr (by exact hn)
      omega
  show (if mulOk i j = true then _ else _) = _
  rw [if_pos (by
    unfold mulOk
    rw [decide_eq_true_eq]
    have := lg _ h
    have := lg _ g
    omega)]
/-- numbers of up to 200 bits -/
theorem mul_sm {i j : Int} (h : -1606938044258990275541962092341162602522202993782792835301376 < i ∧ i < 1606938044258990275541962092341162602522202993782792835301376) (g : -1606938044258990275541962092341162602522202993782792835301376 < j ∧ j < 1606938044258990275541962092341162602522202993782792835301376) : binD .mul (.int i) (.int j) = .ok (.d (.int (i * j))) := mul_lit (by omega) (by omega)
theorem mul_int {i j : Int} (h : mulOk i j = true) : binD .mul (.int i) (.int j) = .ok (.d (.int (i * j))) := by
  show (if mulOk i j = true then _ else _) = _
  rw [if_pos h]
theorem divOk_small {j : Int} (h : 0 < j) (h2 : j < 2 ^ 64) : divOk j = true := by
  unfold divOk
  rw [decide_eq_true_eq]
  refine ⟨h, ?_⟩
  by_cases hz : j.natAbs = 0
  · omega
  · have := Nat.log2_lt (n := j.natAbs) (k := 64) hz
    have : j.natAbs.log2 < 64 := this.mpr (by omega)
    omega
@[simp] theorem div_int {i j : Int} (h : 0 < j) (h2 : j < 18446744073709551616) : binD .fdiv (.int i) (.int j) = .ok (.d (.int (i / j))) := by
  show (if divOk j = true then _ else _) = _
  rw [if_pos (divOk_small h (by omega))]
@[simp] theorem mod_int {i j : Int} (h : 0 < j) : binD .mod (.int i) (.int j) = .ok (.d (.int (i % j))) := by
  show (if 0 < j then _ else _) = _
  rw [if_pos h]
@[simp] theorem pow_int {i j : Int} (h : 0 ≤ j) (h2 : j ≤ 1000000) (h3 : i.natAbs < 18446744073709551616) : binD .pow (.int i) (.int j) = .ok (.d (.int (i ^ j.toNat))) := by
  show (if powOk i j = true then _ else _) = _
  rw [if_pos (by unfold powOk; rw [decide_eq_true_eq]; exact ⟨h, h2, h3⟩)]
/-- numbers of at most n bits -/
def Bt (n : Nat) (i : Int) : Prop := i.natAbs < 2 ^ n
instance (n : Nat) (i : Int) : Decidable (Bt n i) := inferInstanceAs (Decidable (_ < _))
theorem Bt.zero {n : Nat} : Bt n 0 := Nat.two_pow_pos n
theorem Bt.one {n : Nat} (h : 0 < n) : Bt n 1 := Nat.one_lt_two_pow (by omega)
theorem Bt.le {n : Nat} {x y : Int} (h0 : 0 ≤ x) (h : x ≤ y) (g : Bt n y) : Bt n x := Nat.lt_of_le_of_lt (by omega) g
theorem Bt.same {n : Nat} {x y : Int} (h : x.natAbs = y.natAbs) (g : Bt n y) : Bt n x := by unfold Bt at *; rw [h]; exact g
theorem Bt.of {n : Nat} {x : Int} (h : 0 ≤ x) (g : x < 2 ^ n) : Bt n x := by
  unfold Bt
  have e : ((2 ^ n : Nat) : Int) = (2 : Int) ^ n := by rw [Int.natCast_pow]; rfl
  omega
theorem Bt.mono {m n : Nat} {i : Int} (h : Bt m i) (e : m ≤ n) : Bt n i := Nat.lt_of_lt_of_le h (Nat.pow_le_pow_right (by decide) e)
theorem Bt.mul {m n : Nat} {i j : Int} (h : Bt m i) (g : Bt n j) : Bt (m + n) (i * j) := by
  unfold Bt at *
  rw [Int.natAbs_mul, Nat.pow_add]
  exact Nat.mul_lt_mul'' h g
theorem Bt.add {m n : Nat} {i j : Int} (h : Bt m i) (g : Bt n j) : Bt (max m n + 1) (i + j) := by
  have h1 := h.mono (Nat.le_max_left m n)
  have h2 := g.mono (Nat.le_max_right m n)
  unfold Bt at *
  rw [Nat.pow_succ]
  have := Int.natAbs_add_le i j
  omega
theorem Bt.sub {m n : Nat} {i j : Int} (h : Bt m i) (g : Bt n j) : Bt (max m n + 1) (i - j) := by
  have h1 := h.mono (Nat.le_max_left m n)
  have h2 := g.mono (Nat.le_max_right m n)
  unfold Bt at *
  rw [Nat.pow_succ]
  omega
theorem Bt.div {n : Nat} {i j : Int} (h : Bt n i) : Bt n (i / j) := Nat.lt_of_le_of_lt (Int.natAbs_ediv_le_natAbs i j) h
theorem Bt.mod {i : Int} {n : Nat} {j : Int} (h : Bt n j) (g : 0 < j) : Bt n (i % j) := by
  unfold Bt at *
  have e := Int.emod_lt_of_pos i g
  have e0 := Int.emod_nonneg i (Int.ne_of_gt g)
  omega
theorem Bt.log {n : Nat} {i : Int} (h : Bt n i) : i.natAbs.log2 ≤ n := by
  by_cases hz : i.natAbs = 0
  · rw [hz]; simp
  · have := (Nat.log2_lt (n := i.natAbs) (k := n) hz).mpr h
    omega
theorem mulOk_bt {m n : Nat} {i j : Int} (h : Bt m i) (g : Bt n j) (e : m + n < 100000000) : mulOk i j = true := by
  unfold mulOk
  rw [decide_eq_true_eq]
  have := h.log
  have := g.log
  omega
theorem mul_bt {i j : Int} (m n : Nat) (h : Bt m i) (g : Bt n j) (e : m + n < 100000000) : binD .mul (.int i) (.int j) = .ok (.d (.int (i * j))) := mul_int (mulOk_bt h g e)
@[simp] theorem cmp_lt {i j : Int} : cmpD .lt (.int i) (.int j) = .ok (decide (i < j)) := via rfl
@[simp] theorem cmp_le {i j : Int} : cmpD .le (.int i) (.int j) = .ok (decide (i ≤ j)) := via rfl
@[simp] theorem cmp_gt {i j : Int} : cmpD .gt (.int i) (.int j) = .ok (decide (j < i)) := via rfl
@[simp] theorem cmp_ge {i j : Int} : cmpD .ge (.int i) (.int j) = .ok (decide (j ≤ i)) := via rfl
theorem dint_inj {i j : Int} : (D.int i = D.int j) ↔ i = j := ⟨fun h => by injection h, fun h => by rw [h]⟩
@[simp] theorem cmp_eq_int {i j : Int} : cmpD .eq (.int i) (.int j) = .ok (decide (i = j)) := by
  show R.ok (decide (D.int i = D.int j)) = _
  congr 1
  exact decide_eq_decide.mpr dint_inj
@[simp] theorem cmp_ne_int {i j : Int} : cmpD .ne (.int i) (.int j) = .ok (!decide (i = j)) := by
  show (cmpD .eq (.int i) (.int j) >>= fun c => R.ok (!c)) = _
  rw [cmp_eq_int]; rfl
@[simp] theorem cmp_eq_bl {a b : Bool} : cmpD .eq (.bl a) (.bl b) = .ok (a == b) := via rfl
@[simp] theorem cmp_ne_bl {a b : Bool} : cmpD .ne (.bl a) (.bl b) = .ok (!(a == b)) := via rfl
@[simp] theorem is_non {a : D} : cmpD .is a .non = .ok (match a with | .non => true | _ => false) := by cases a <;> rfl
@[simp] theorem isn_non {a : D} : cmpD .isn a .non = .ok (match a with | .non => false | _ => true) := by cases a <;> rfl
@[simp] theorem is_bl {a b : Bool} : cmpD .is (.bl a) (.bl b) = .ok (a == b) := via rfl
@[simp] theorem isn_bl {a b : Bool} : cmpD .isn (.bl a) (.bl b) = .ok (!(a == b)) := via rfl
@[simp] theorem bi_len_lst {xs : List D} : biD .len [.lst xs] = .ok (.d (.int xs.length)) := via rfl
@[simp] theorem bi_len_tup {xs : List D} : biD .len [.tup xs] = .ok (.d (.int xs.length)) := via rfl
@[simp] theorem bi_len_scr {xs : List Int} : biD .len [.scr xs] = .ok (.d (.int xs.length)) := via rfl
@[simp] theorem bi_len_str {s : Tx} (h : s.length ≤ 16777216) : biD .len [.str s] = .ok (.d (.int s.length)) := if_pos h
@[simp] theorem bi_str_str {s : Tx} : biD .str [.str s] = .ok (.d (.str s)) := via rfl
@[simp] theorem bi_int_int {i : Int} : biD .int [.int i] = .ok (.d (.int i)) := via rfl
@[simp] theorem bi_int_bl {b : Bool} : biD .int [.bl b] = .ok (.d (.int (if b then 1 else 0))) := via rfl
@[simp] theorem bi_abs {i : Int} : biD .abs [.int i] = .ok (.d (.int (if i < 0 then -i else i))) := via rfl
@[simp] theorem bi_min {i j : Int} : biD .min2 [.int i, .int j] = .ok (.d (.int (if j < i then j else i))) := via rfl
@[simp] theorem bi_max {i j : Int} : biD .max2 [.int i, .int j] = .ok (.d (.int (if j > i then j else i))) := via rfl
@[simp] theorem bi_divmod {i j : Int} (h : 0 < j) (h2 : j < 1073741824) : biD .divmod [.int i, .int j] = .ok (.d (.tup [.int (i / j), .int (i % j)])) := if_pos ⟨h, h2⟩
@[simp] theorem bi_tuple_lst {xs : List D} : biD .tuple [.lst xs] = .ok (.d (.tup xs)) := via rfl
@[simp] theorem bi_tuple_tup {xs : List D} : biD .tuple [.tup xs] = .ok (.d (.tup xs)) := via rfl
@[simp] theorem bi_list_lst {xs : List D} : biD .list [.lst xs] = .ok (.fr xs) := via rfl
@[simp] theorem bi_list_tup {xs : List D} : biD .list [.tup xs] = .ok (.fr xs) := via rfl
@[simp] theorem isa_non_int : isaD .non "int" = .ok false := by simp [isaD, tyD, isaT]
@[simp] theorem isa_non_bool : isaD .non "bool" = .ok false := by simp [isaD, tyD, isaT]
@[simp] theorem isa_non_str : isaD .non "str" = .ok false := by simp [isaD, tyD, isaT]
@[simp] theorem isa_non_list : isaD .non "list" = .ok false := by simp [isaD, tyD, isaT]
@[simp] theorem isa_non_tuple : isaD .non "tuple" = .ok false := by simp [isaD, tyD, isaT]
@[simp] theorem isa_bl_int {b : Bool} : isaD (.bl b) "int" = .ok true := by simp [isaD, tyD, isaT]
@[simp] theorem isa_bl_bool {b : Bool} : isaD (.bl b) "bool" = .ok true := by simp [isaD, tyD, isaT]
@[simp] theorem isa_bl_str {b : Bool} : isaD (.bl b) "str" = .ok false := by simp [isaD, tyD, isaT]
@[simp] theorem isa_bl_list {b : Bool} : isaD (.bl b) "list" = .ok false := by simp [isaD, tyD, isaT]
@[simp] theorem isa_bl_tuple {b : Bool} : isaD (.bl b) "tuple" = .ok false := by simp [isaD, tyD, isaT]
@[simp] theorem isa_int_int {b : Int} : isaD (.int b) "int" = .ok true := by simp [isaD, tyD, isaT]
@[simp] theorem isa_int_bool {b : Int} : isaD (.int b) "bool" = .ok false := by simp [isaD, tyD, isaT]
@[simp] theorem isa_int_str {b : Int} : isaD (.int b) "str" = .ok false := by simp [isaD, tyD, isaT]
@[simp] theorem isa_int_list {b : Int} : isaD (.int b) "list" = .ok false := by simp [isaD, tyD, isaT]
@[simp] theorem isa_int_tuple {b : Int} : isaD (.int b) "tuple" = .ok false := by simp [isaD, tyD, isaT]
@[simp] theorem isa_str_int {b : Tx} : isaD (.str b) "int" = .ok false := by simp [isaD, tyD, isaT]
@[simp] theorem isa_str_bool {b : Tx} : isaD (.str b) "bool" = .ok false := by simp [isaD, tyD, isaT]
@[simp] theorem isa_str_str {b : Tx} : isaD (.str b) "str" = .ok true := by simp [isaD, tyD, isaT]
@[simp] theorem isa_str_list {b : Tx} : isaD (.str b) "list" = .ok false := by simp [isaD, tyD, isaT]
@[simp] theorem isa_str_tuple {b : Tx} : isaD (.str b) "tuple" = .ok false := by simp [isaD, tyD, isaT]
@[simp] theorem isa_lst_int {b : List D} : isaD (.lst b) "int" = .ok false := by simp [isaD, tyD, isaT]
@[simp] theorem isa_lst_bool {b : List D} : isaD (.lst b) "bool" = .ok false := by simp [isaD, tyD, isaT]
@[simp] theorem isa_lst_str {b : List D} : isaD (.lst b) "str" = .ok false := by simp [isaD, tyD, isaT]
@[simp] theorem isa_lst_list {b : List D} : isaD (.lst b) "list" = .ok true := by simp [isaD, tyD, isaT]
@[simp] theorem isa_lst_tuple {b : List D} : isaD (.lst b) "tuple" = .ok false := by simp [isaD, tyD, isaT]
@[simp] theorem isa_tup_int {b : List D} : isaD (.tup b) "int" = .ok false := by simp [isaD, tyD, isaT]
@[simp] theorem isa_tup_bool {b : List D} : isaD (.tup b) "bool" = .ok false := by simp [isaD, tyD, isaT]
@[simp] theorem isa_tup_str {b : List D} : isaD (.tup b) "str" = .ok false := by simp [isaD, tyD, isaT]
@[simp] theorem isa_tup_list {b : List D} : isaD (.tup b) "list" = .ok false := by simp [isaD, tyD, isaT]
@[simp] theorem isa_tup_tuple {b : List D} : isaD (.tup b) "tuple" = .ok true := by simp [isaD, tyD, isaT]
theorem allBl_map : ∀ bs : List Bool, allBl (bs.map D.bl) = some bs
  | [] => rfl
  | b :: r => by
    rw [List.map_cons]
    show (allBl (r.map D.bl)).map (b :: ·) = _
    rw [allBl_map r]; rfl
@[simp] theorem bi_all {bs : List Bool} : biD .all [.lst (bs.map D.bl)] = .ok (.d (.bl (bs.all id))) := by
  show optR (allBl _) _ = _
  rw [allBl_map]; rfl
@[simp] theorem bi_any {bs : List Bool} : biD .any [.lst (bs.map D.bl)] = .ok (.d (.bl (bs.any id))) := by
  show optR (allBl _) _ = _
  rw [allBl_map]; rfl
theorem intsOf_map : ∀ bs : List Int, intsOf (bs.map D.int) = some bs
  | [] => rfl
  | b :: r => by
    rw [List.map_cons]
    show (intsOf (r.map D.int)).map (b :: ·) = _
    rw [intsOf_map r]; rfl
@[simp] theorem bi_sum {bs : List Int} : biD .sum [.lst (bs.map D.int)] = .ok (.d (.int bs.sum)) := by
  show optR (intsOf _) _ = _
  rw [intsOf_map]; rfl
def Out.thn (o : Out) (f : Sg → Out) : Out := match o with
  | .nx S => f S
  | o => o
@[simp] theorem thn_nx {f : Sg → Out} : (Out.nx S).thn f = f S := via rfl
@[simp] theorem thn_rt {v : Val} {f : Sg → Out} : (Out.rt v).thn f = .rt v := via rfl
@[simp] theorem thn_bk {f : Sg → Out} : (Out.bk S).thn f = .bk S := via rfl
@[simp] theorem thn_ct {f : Sg → Out} : (Out.ct S).thn f = .ct S := via rfl
@[simp] theorem exes_nil : exes Γ .nil S = .nx S := via rfl
@[simp] theorem exes_cons {s : Sm} {r : Sms} : exes Γ (.cons s r) S = (exe Γ s S).thn (exes Γ r) := via rfl
@[simp] theorem exes_frz {i : Nat} {r : Sms} : exes Γ (.frz i r) S = exes Γ r (frzS S i) := via rfl
@[simp] theorem exe_set {i : Nat} {e : Ex} : exe Γ (.set i e) S = Out.of (ev Γ e S) fun v => .nx (S.set i v.sl) := via rfl
@[simp] theorem exe_setT {is : List Nat} {e : Ex} : exe Γ (.setT is e) S = Out.of (ev Γ e S) fun v => Out.of ((Tg.tup is).set v.D S) fun S1 => .nx S1 := via rfl
@[simp] theorem exe_aug {i : Nat} {o : BOp} {e : Ex} : exe Γ (.aug i o e) S = Out.of (S.get i) fun x => Out.of (evL Γ e S) fun y => Out.of (augD o x y) fun v => .nx (S.set i (.fz v)) := via rfl
theorem exe_app {i : Nat} {e : Ex} {xs : List D} {v : Val} (h : S[i]? = some (.own xs)) (he : ev Γ e S = .ok v) (hl : xs.length < LINE) : exe Γ (.app i e) S = .nx (S.set i (.own (xs ++ [v.D]))) := by
  show (match S[i]? with
    | some (.own xs) => Out.of (ev Γ e S) fun v => if xs.length < LINE then .nx (S.set i (.own (xs ++ [v.D]))) else .bad
    | _ => .bad) = _
  rw [h, he]
  show (if xs.length < LINE then Out.nx (S.set i (.own (xs ++ [v.D]))) else .bad) = _
  rw [if_pos hl]
def slot (S : Sg) (i : Nat) : Option Sl := S[i]?
@[simp] theorem slot_zero {x : Sl} {r : List Sl} : slot (x :: r) 0 = some x := via rfl
@[simp] theorem slot_succ {x : Sl} {r : List Sl} {n : Nat} : slot (x :: r) (n + 1) = slot r n := via rfl
def apO (o : Option Sl) (f : List D → Out) : Out := match o with
  | some (.own xs) => f xs
  | _ => .bad
@[simp] theorem apO_own {xs : List D} {f : List D → Out} : apO (some (.own xs)) f = f xs := via rfl
def lenO (n : Nat) (o : Out) : Out := if n < LINE then o else .bad
@[simp] theorem lenO_ok {n : Nat} {o : Out} (h : n < 16777216) : lenO n o = o := if_pos h
@[simp] theorem exe_apps {i : Nat} {e : Ex} : exe Γ (.app i e) S = apO (slot S i) fun xs => Out.of (ev Γ e S) fun v => lenO xs.length (.nx (S.set i (.own (xs ++ [v.D])))) := by
  show (match S[i]? with
    | some (.own xs) => Out.of (ev Γ e S) fun v => if xs.length < LINE then .nx (S.set i (.own (xs ++ [v.D]))) else .bad
    | _ => .bad) = _
  unfold apO slot
  rfl
def extO (xs : List D) (S : Sg) (i : Nat) : D → Out
  | .lst zs => if xs.length + zs.length ≤ LINE then .nx (S.set i (.own (xs ++ zs))) else .bad
  | _ => .bad
theorem extO_ok {xs zs : List D} {i : Nat} (h : xs.length + zs.length ≤ 16777216) : extO xs S i (.lst zs) = .nx (S.set i (.own (xs ++ zs))) := if_pos h
@[simp] theorem exe_ext {i : Nat} {e : Ex} : exe Γ (.ext i e) S = apO (slot S i) fun xs => Out.of (evL Γ e S) fun y => extO xs S i y := by
  show (match S[i]? with
    | some (.own xs) => Out.of (evL Γ e S) fun y => match y with
      | .lst zs => if xs.length + zs.length ≤ LINE then .nx (S.set i (.own (xs ++ zs))) else .bad
      | _ => .bad
    | _ => .bad) = _
  unfold apO slot extO
  rfl
@[simp] theorem exe_mov {i j : Nat} : exe Γ (.mov i j) S = apO (slot S j) fun xs => if i ≠ j then Out.nx ((S.set j .no).set i (.own xs)) else Out.bad := by
  show (match S[j]? with
    | some (.own xs) => if i ≠ j then Out.nx ((S.set j .no).set i (.own xs)) else Out.bad
    | _ => Out.bad) = _
  unfold apO slot
  rfl
@[simp] theorem exe_put {i : Nat} {k e : Ex} : exe Γ (.put i k e) S = apO (slot S i) fun xs => Out.of (ev Γ e S) fun v => Out.of (evL Γ k S) fun x => Out.of x.int? fun j => Out.of (optR (ixOf xs.length j) .ok) fun n => .nx (S.set i (.own (xs.set n v.D))) := by
  show (match S[i]? with
    | some (.own xs) => Out.of (ev Γ e S) fun v => Out.of (evL Γ k S) fun x => Out.of x.int? fun j => Out.of (optR (ixOf xs.length j) .ok) fun n => .nx (S.set i (.own (xs.set n v.D)))
    | _ => .bad) = _
  unfold apO slot
  rfl
@[simp] theorem exe_ifs {t : Ex} {a b : Sms} : exe Γ (.ifs t a b) S = Out.of (evT Γ t S) fun k => pick k (exes Γ a S) (exes Γ b S) := via rfl
@[simp] theorem exe_whl {t : Ex} {b : Sms} : exe Γ (.whl t b) S = whlL (evT Γ t) (exes Γ b) FUEL S := via rfl
@[simp] theorem exe_for {tg : Tg} {it : It} {b : Sms} : exe Γ (.for_ tg it b) S = Out.of (evI Γ it S) fun xs => forL tg (exes Γ b) xs S := via rfl
@[simp] theorem exe_exp {e : Ex} : exe Γ (.exp e) S = Out.of (ev Γ e S) fun _ => .nx S := via rfl
@[simp] theorem exe_brk : exe Γ .brk S = .bk S := via rfl
@[simp] theorem exe_cnt : exe Γ .cnt S = .ct S := via rfl
@[simp] theorem exe_pas : exe Γ .pas S = .nx S := via rfl
def rtV (S : Sg) (i : Nat) : Out := match S[i]? with
  | some (.own xs) => .rt (.fr xs)
  | some (.fz x) => .rt (.d x)
  | _ => .bad
@[simp] theorem rtV_fz {x : D} {r : List Sl} : rtV (.fz x :: r) 0 = .rt (.d x) := via rfl
@[simp] theorem rtV_own {x : List D} {r : List Sl} : rtV (.own x :: r) 0 = .rt (.fr x) := via rfl
@[simp] theorem rtV_succ {s : Sl} {r : List Sl} {n : Nat} : rtV (s :: r) (n + 1) = rtV r n := via rfl
@[simp] theorem ret_var {i : Nat} : exe Γ (.ret (.var i)) S = rtV S i := via rfl
theorem ret_of {e : Ex} (h : isVar e = none) : exe Γ (.ret e) S = Out.of (ev Γ e S) fun v => .rt v := by cases e <;> first | rfl | cases h
@[simp] theorem ret_cst {x : D} : exe Γ (.ret (.cst x)) S = .rt (.d x) := via rfl
@[simp] theorem ret_bin {o : BOp} {a b : Ex} : exe Γ (.ret (.bin o a b)) S = Out.of (ev Γ (.bin o a b) S) fun v => .rt v := via rfl
@[simp] theorem ret_lrg1 {b : Ex} : exe Γ (.ret (.lrg1 b)) S = Out.of (ev Γ (.lrg1 b) S) fun v => .rt v := via rfl
@[simp] theorem ret_lrg {a b : Ex} : exe Γ (.ret (.lrg a b)) S = Out.of (ev Γ (.lrg a b) S) fun v => .rt v := via rfl
@[simp] theorem ret_cnt {a b : Ex} : exe Γ (.ret (.cnt a b)) S = Out.of (ev Γ (.cnt a b) S) fun v => .rt v := via rfl
@[simp] theorem ret_rev {a : Ex} : exe Γ (.ret (.rev a)) S = Out.of (ev Γ (.rev a) S) fun v => .rt v := via rfl
@[simp] theorem ret_neg {a : Ex} : exe Γ (.ret (.neg a)) S = Out.of (ev Γ (.neg a) S) fun v => .rt v := via rfl
@[simp] theorem ret_nt {a : Ex} : exe Γ (.ret (.nt a)) S = Out.of (ev Γ (.nt a) S) fun v => .rt v := via rfl
@[simp] theorem ret_cmp {o : COp} {a b : Ex} : exe Γ (.ret (.cmp o a b)) S = Out.of (ev Γ (.cmp o a b) S) fun v => .rt v := via rfl
@[simp] theorem ret_chn {o p : COp} {a b c : Ex} : exe Γ (.ret (.chn o p a b c)) S = Out.of (ev Γ (.chn o p a b c) S) fun v => .rt v := via rfl
@[simp] theorem ret_and {a b : Ex} : exe Γ (.ret (.and a b)) S = Out.of (ev Γ (.and a b) S) fun v => .rt v := via rfl
@[simp] theorem ret_or {a b : Ex} : exe Γ (.ret (.or a b)) S = Out.of (ev Γ (.or a b) S) fun v => .rt v := via rfl
@[simp] theorem ret_tup {es : Exs} : exe Γ (.ret (.tup es)) S = Out.of (ev Γ (.tup es) S) fun v => .rt v := via rfl
@[simp] theorem ret_lst {es : Exs} : exe Γ (.ret (.lst es)) S = Out.of (ev Γ (.lst es) S) fun v => .rt v := via rfl
@[simp] theorem ret_sub {a b : Ex} : exe Γ (.ret (.sub a b)) S = Out.of (ev Γ (.sub a b) S) fun v => .rt v := via rfl
@[simp] theorem ret_slc {a b c : Ex} : exe Γ (.ret (.slc a b c)) S = Out.of (ev Γ (.slc a b c) S) fun v => .rt v := via rfl
@[simp] theorem ret_slcL {a b : Ex} : exe Γ (.ret (.slcL a b)) S = Out.of (ev Γ (.slcL a b) S) fun v => .rt v := via rfl
@[simp] theorem ret_slcH {a b : Ex} : exe Γ (.ret (.slcH a b)) S = Out.of (ev Γ (.slcH a b) S) fun v => .rt v := via rfl
@[simp] theorem ret_call {f : String} {es : Exs} : exe Γ (.ret (.call f es)) S = Out.of (ev Γ (.call f es) S) fun v => .rt v := via rfl
@[simp] theorem ret_bi {b : Bi} {es : Exs} : exe Γ (.ret (.bi b es)) S = Out.of (ev Γ (.bi b es) S) fun v => .rt v := via rfl
@[simp] theorem ret_isa {a : Ex} {c : String} : exe Γ (.ret (.isa a c)) S = Out.of (ev Γ (.isa a c) S) fun v => .rt v := via rfl
@[simp] theorem ret_lc {o : List (Str × Nat)} {tg : Tg} {it : It} {c e : Ex} : exe Γ (.ret (.lc o tg it c e)) S = Out.of (ev Γ (.lc o tg it c e) S) fun v => .rt v := via rfl
@[simp] theorem ret_fld {cs : List String} {a : Ex} {n : String} : exe Γ (.ret (.fld cs a n)) S = Out.of (ev Γ (.fld cs a n) S) fun v => .rt v := via rfl
@[simp] theorem ret_mth {cs : List String} {a : Ex} {n : String} {es : Exs} : exe Γ (.ret (.mth cs a n es)) S = Out.of (ev Γ (.mth cs a n es) S) fun v => .rt v := via rfl
@[simp] theorem ret_mk {c : String} {es : Exs} : exe Γ (.ret (.mk c es)) S = Out.of (ev Γ (.mk c es) S) fun v => .rt v := via rfl
@[simp] theorem ret_m1 {m : M1} {a b : Ex} : exe Γ (.ret (.m1 m a b)) S = Out.of (ev Γ (.m1 m a b) S) fun v => .rt v := via rfl
@[simp] theorem set_one {i : Nat} {x : D} : (Tg.one i).set x S = .ok (S.set i (.fz x)) := via rfl
@[simp] theorem set_lst {is : List Nat} {xs : List D} : (Tg.tup is).set (.lst xs) S = setAll is xs S := via rfl
@[simp] theorem set_tup {is : List Nat} {xs : List D} : (Tg.tup is).set (.tup xs) S = setAll is xs S := via rfl
@[simp] theorem setAll_nil : setAll [] [] S = .ok S := via rfl
@[simp] theorem setAll_cons {i : Nat} {is : List Nat} {x : D} {xs : List D} : setAll (i :: is) (x :: xs) S = setAll is xs (S.set i (.fz x)) := via rfl
@[simp] theorem val_rt {v : Val} : (Out.rt v).val = .ok v := via rfl
@[simp] theorem val_nx : (Out.nx S).val = .ok (.d .non) := via rfl
@[simp] theorem aug_add {i j : Int} : augD .add (.int i) (.int j) = .ok (.int (i + j)) := via rfl
@[simp] theorem aug_sub {i j : Int} : augD .sub (.int i) (.int j) = .ok (.int (i - j)) := via rfl
theorem run_0 {d : Df} {xs : List D} (h : xs.length = d.np) (hi : isIni d.body = false := by rfl) : run Γ d xs = (exes Γ d.body (xs.map Sl.fz ++ List.replicate (d.nl - d.np) Sl.no)).val := by
  unfold run
  rw [if_neg (by rw [hi]; exact Bool.false_ne_true), if_pos ⟨Nat.le_of_eq h, by omega⟩, h, show d.np + d.dfl.length - d.np = d.dfl.length from by omega, List.drop_length, List.append_nil]
theorem run_of {d : Df} {xs : List D} (h : xs.length ≤ d.np ∧ d.np ≤ xs.length + d.dfl.length) (hi : isIni d.body = false := by rfl) : run Γ d xs = (exes Γ d.body ((xs ++ d.dfl.drop (xs.length + d.dfl.length - d.np)).map Sl.fz ++ List.replicate (d.nl - d.np) Sl.no)).val := (if_neg (by rw [hi]; exact Bool.false_ne_true)).trans (if_pos h)
end Fv
end
section
namespace Fv
open PySem
/-- what follows a turn of a loop -/
def turn (o : Out) (f g : Sg → Out) : Out := match o with
  | .nx S => f S
  | .ct S => f S
  | .bk S => g S
  | o => o
@[simp] theorem turn_nx {S : Sg} {f g : Sg → Out} : turn (.nx S) f g = f S := via rfl
@[simp] theorem turn_ct {S : Sg} {f g : Sg → Out} : turn (.ct S) f g = f S := via rfl
@[simp] theorem turn_bk {S : Sg} {f g : Sg → Out} : turn (.bk S) f g = g S := via rfl
@[simp] theorem turn_rt {v : Val} {f g : Sg → Out} : turn (.rt v) f g = .rt v := via rfl
@[simp] theorem forL_nil {tg : Tg} {b : Sg → Out} {S : Sg} : forL tg b [] S = .nx S := via rfl
theorem forL_cons {tg : Tg} {b : Sg → Out} {x : D} {xs : List D} {S : Sg} : forL tg b (x :: xs) S = Out.of (tg.set x S) fun S1 => turn (b S1) (forL tg b xs) .nx := by
  show (Out.of (tg.set x S) fun S1 => match b S1 with
    | .nx S2 => forL tg b xs S2
    | .ct S2 => forL tg b xs S2
    | .bk S2 => .nx S2
    | o => o) = _
  congr 1
/-- a step's end -/
def Turn (P : Sg → Prop) (R : Out → Prop) (o : Out) : Prop := match o with
  | .nx S => P S
  | .ct S => P S
  | .bk S => R (.nx S)
  | o => R o
@[simp] theorem Turn_nx {P : Sg → Prop} {R : Out → Prop} {S : Sg} : Turn P R (.nx S) = P S := via rfl
@[simp] theorem Turn_ct {P : Sg → Prop} {R : Out → Prop} {S : Sg} : Turn P R (.ct S) = P S := via rfl
@[simp] theorem Turn_bk {P : Sg → Prop} {R : Out → Prop} {S : Sg} : Turn P R (.bk S) = R (.nx S) := via rfl
@[simp] theorem Turn_rt {P : Sg → Prop} {R : Out → Prop} {v : Val} : Turn P R (.rt v) = R (.rt v) := via rfl
@[simp] theorem Turn_er {P : Sg → Prop} {R : Out → Prop} {c : String} {fs : List D} : Turn P R (.er c fs) = R (.er c fs) := via rfl
theorem forL_rule {tg : Tg} {b : Sg → Out} {R : Out → Prop} (P : Nat → Sg → Prop) : ∀ (xs : List D) (S : Sg) (j : Nat), P j S →
    (∀ i x S, xs[i]? = some x → P (j + i) S → ∃ S1, tg.set x S = .ok S1 ∧ Turn (P (j + i + 1)) R (b S1)) → (∀ S, P (j + xs.length) S → R (.nx S)) → R (forL tg b xs S)
  | [], S, j, h0, _, fin => fin S h0
  | x :: xs, S, j, h0, step, fin => by
    obtain ⟨S1, e, t⟩ := step 0 x S rfl h0
    rw [forL_cons, e, Out.of_ok]
    have go : ∀ S2, P (j + 1) S2 → R (forL tg b xs S2) := fun S2 h2 => forL_rule P xs S2 (j + 1) h2
      (fun i y S hy hp => by
        have z := step (i + 1) y S (by simpa using hy)
        have e1 : j + 1 + i = j + (i + 1) := by omega
        rw [e1] at hp ⊢
        exact z hp)
      (fun S hp => fin S (by rw [List.length_cons]; have e1 : j + 1 + xs.length = j + (xs.length + 1) := by omega
                             rw [e1] at hp; exact hp))
    cases e2 : b S1 with
    | nx S2 => rw [e2] at t; exact go S2 t
    | ct S2 => rw [e2] at t; exact go S2 t
    | bk S2 => rw [e2] at t; exact t
    | rt v => rw [e2] at t; exact t
    | er _ _ => rw [e2] at t; exact t
    | bad => rw [e2] at t; exact t
/-- a for: P i ahead of turn i -/
theorem for_rule {tg : Tg} {b : Sg → Out} {R : Out → Prop} {xs : List D} {S : Sg} (P : Nat → Sg → Prop) (h0 : P 0 S)
    (step : ∀ i x S, xs[i]? = some x → P i S → ∃ S1, tg.set x S = .ok S1 ∧ Turn (P (i + 1)) R (b S1)) (fin : ∀ S, P xs.length S → R (.nx S)) : R (forL tg b xs S) :=
  forL_rule P xs S 0 h0 (fun i x S hx hp => by rw [Nat.zero_add] at hp ⊢; exact step i x S hx hp) (fun S hp => fin S (by rw [Nat.zero_add] at hp; exact hp))
/-- a while: P n: n turns more at most -/
theorem whl_rule {t : Sg → R Bool} {b : Sg → Out} {R : Out → Prop} (P : Nat → Sg → Prop)
    (step : ∀ n S, P n S → ∃ k, t S = .ok k ∧ (k = false → R (.nx S)) ∧ (k = true → ∃ m, n = m + 1 ∧ Turn (P m) R (b S))) : ∀ (n f : Nat) (S : Sg), n < f → P n S → R (whlL t b f S)
  | n, 0, S, h, _ => absurd h (Nat.not_lt_zero _)
  | n, f + 1, S, h, h0 => by
    obtain ⟨k, e, h1, h2⟩ := step n S h0
    show R (Out.of (t S) fun k => if k then (match b S with
      | .nx S2 => whlL t b f S2
      | .ct S2 => whlL t b f S2
      | .bk S2 => .nx S2
      | o => o) else .nx S)
    rw [e, Out.of_ok]
    cases k with
    | false => exact h1 rfl
    | true =>
      obtain ⟨m, rfl, t'⟩ := h2 rfl
      rw [if_pos rfl]
      cases e2 : b S with
      | nx S2 => rw [e2] at t'; exact whl_rule P step m f S2 (by omega) t'
      | ct S2 => rw [e2] at t'; exact whl_rule P step m f S2 (by omega) t'
      | bk S2 => rw [e2] at t'; exact t'
      | rt v => rw [e2] at t'; exact t'
      | er _ _ => rw [e2] at t'; exact t'
      | bad => rw [e2] at t'; exact t'
/-- a comprehension: what each item gives -/
theorem compL_map {α : Type} {tg : Tg} {S : Sg} {c : Sg → R Bool} {e : Sg → R D} (f : α → D) (g : α → D) : ∀ (xs : List α) (acc : List D), (∀ x ∈ xs, ∃ S1, tg.set (f x) S = .ok S1 ∧ c S1 = .ok true ∧ e S1 = .ok (g x)) →
    compL tg S c e (xs.map f) acc = .ok (acc ++ xs.map g)
  | [], acc, _ => by show R.ok acc = _; rw [List.map_nil, List.append_nil]
  | x :: xs, acc, h => by
    obtain ⟨S1, e1, e2, e3⟩ := h x (List.mem_cons_self ..)
    show (tg.set (f x) S >>= fun S1 => (c S1).noEr >>= fun b => if b then (e S1).noEr >>= fun y => compL tg S c e (xs.map f) (acc ++ [y]) else compL tg S c e (xs.map f) acc) = _
    rw [e1]
    show ((c S1).noEr >>= fun b => if b then (e S1).noEr >>= fun y => compL tg S c e (xs.map f) (acc ++ [y]) else compL tg S c e (xs.map f) acc) = _
    rw [e2, e3]
    show compL tg S c e (xs.map f) (acc ++ [g x]) = _
    rw [compL_map f g xs _ fun y hy => h y (List.mem_cons_of_mem _ hy), List.map_cons, List.append_assoc]
    rfl
/-- .. with a test -/
theorem compL_filter {α : Type} {tg : Tg} {S : Sg} {c : Sg → R Bool} {e : Sg → R D} (f : α → D) (p : α → Bool) (g : α → D) : ∀ (xs : List α) (acc : List D), (∀ x ∈ xs, ∃ S1, tg.set (f x) S = .ok S1 ∧ c S1 = .ok (p x) ∧ (p x = true → e S1 = .ok (g x))) →
    compL tg S c e (xs.map f) acc = .ok (acc ++ (xs.filter p).map g)
  | [], acc, _ => by show R.ok acc = _; rw [List.filter_nil, List.map_nil, List.append_nil]
  | x :: xs, acc, h => by
    obtain ⟨S1, e1, e2, e3⟩ := h x (List.mem_cons_self ..)
    show (tg.set (f x) S >>= fun S1 => (c S1).noEr >>= fun b => if b then (e S1).noEr >>= fun y => compL tg S c e (xs.map f) (acc ++ [y]) else compL tg S c e (xs.map f) acc) = _
    rw [e1]
    show ((c S1).noEr >>= fun b => if b then (e S1).noEr >>= fun y => compL tg S c e (xs.map f) (acc ++ [y]) else compL tg S c e (xs.map f) acc) = _
    rw [e2]
    have ih := fun acc => compL_filter f p g xs acc fun y hy => h y (List.mem_cons_of_mem _ hy)
    cases hp : p x with
    | false =>
      show compL tg S c e (xs.map f) acc = _
      rw [ih, List.filter_cons, hp]
      rfl
    | true =>
      show ((e S1).noEr >>= fun y => compL tg S c e (xs.map f) (acc ++ [y])) = _
      rw [e3 hp]
      show compL tg S c e (xs.map f) (acc ++ [g x]) = _
      rw [ih, List.filter_cons, hp, if_pos rfl, List.map_cons, List.append_assoc]
      rfl
theorem compL_all {tg : Tg} {S : Sg} {c : Sg → R Bool} {e : Sg → R D} (g : D → D) (xs : List D) (h : ∀ x ∈ xs, ∃ S1, tg.set x S = .ok S1 ∧ c S1 = .ok true ∧ e S1 = .ok (g x)) : compL tg S c e xs [] = .ok (xs.map g) := by
  have z := compL_map (tg := tg) (S := S) (c := c) (e := e) (fun x => x) g xs [] h
  rw [List.map_id'] at z
  rw [z, List.nil_append]
/-- the numbers from lo on, n of them -/
def rngL (lo : Int) (n : Nat) : List Int := (List.range n).map fun k => lo + (k : Nat)
theorem rngD_eq {lo hi : Int} (h : -(2 ^ 62) ≤ lo ∧ lo < 2 ^ 62 ∧ -(2 ^ 62) ≤ hi ∧ hi < 2 ^ 62) : rngD lo hi = .ok ((rngL lo (hi - lo).toNat).map .int) := by
  unfold rngD rngL
  rw [List.map_map]
  rfl
@[simp] theorem rngD_4 : rngD 0 4 = .ok [.int 0, .int 1, .int 2, .int 3] := by
  rw [rngD_eq (by decide)]; rfl
theorem ixOf_nat {n i : Nat} (h : i < n) : ixOf n (i : Int) = some i := by
  unfold ixOf
  rw [if_pos (by omega), if_pos (by omega), Int.toNat_natCast]
theorem sub_tup {xs : List D} {i : Nat} {x : D} (h : xs[i]? = some x) : subD (.tup xs) (.int (i : Int)) = .ok x := by
  have hi : i < xs.length := (List.getElem?_eq_some_iff.mp h).1
  show optR ((ixOf xs.length (i : Int)).bind (xs[·]?)) _ = _
  rw [ixOf_nat hi]
  show optR (xs[i]?) _ = _
  rw [h]; rfl
theorem sub_lst {xs : List D} {i : Nat} {x : D} (h : xs[i]? = some x) : subD (.lst xs) (.int (i : Int)) = .ok x := by
  have hi : i < xs.length := (List.getElem?_eq_some_iff.mp h).1
  show optR ((ixOf xs.length (i : Int)).bind (xs[·]?)) _ = _
  rw [ixOf_nat hi]
  show optR (xs[i]?) _ = _
  rw [h]; rfl
theorem sub_scr {xs : List Int} {i : Nat} {x : Int} (h : xs[i]? = some x) : subD (.scr xs) (.int (i : Int)) = .ok (.int x) := by
  have hi : i < xs.length := (List.getElem?_eq_some_iff.mp h).1
  show optR ((ixOf xs.length (i : Int)).bind (xs[·]?)) _ = _
  rw [ixOf_nat hi]
  show optR (xs[i]?) _ = _
  rw [h]; rfl
theorem rngL_get {lo : Int} {n i : Nat} (h : i < n) : ((rngL lo n).map D.int)[i]? = some (.int (lo + (i : Nat))) := by
  unfold rngL
  rw [List.getElem?_map, List.getElem?_map, List.getElem?_range h]; rfl
theorem rngL_some {lo : Int} {n i : Nat} {x : D} (h : ((rngL lo n).map D.int)[i]? = some x) : i < n ∧ x = .int (lo + (i : Nat)) := by
  have hi : i < n := by
    have := (List.getElem?_eq_some_iff.mp h).1
    simpa [rngL] using this
  rw [rngL_get hi] at h
  exact ⟨hi, (Option.some.inj h).symm⟩
@[simp] theorem rngL_len {lo : Int} {n : Nat} : ((rngL lo n).map D.int).length = n := by simp [rngL]
@[simp] theorem rngL_len' {lo : Int} {n : Nat} : (rngL lo n).length = n := by simp [rngL]
theorem rng_0 {n : Nat} (h : n < 1000000000) : rngD 0 (n : Int) = .ok ((rngL 0 n).map .int) := by
  rw [rngD_eq (by omega)]
  simp
theorem mul_lst {a : List D} {n : Nat} (h : a.length * n ≤ LINE) (hn : n < 1000000000) : binD .mul (.lst a) (.int (n : Int)) = .ok (.fr (List.replicate n a).flatten) := by
  show (if _ ∧ _ ∧ _ then _ else _) = _
  rw [Int.toNat_natCast, if_pos ⟨h, by omega, by omega⟩]
theorem mul_lst1 {x : D} {n : Nat} (hn : n ≤ LINE) : binD .mul (.lst [x]) (.int (n : Int)) = .ok (.fr (List.replicate n x)) := by
  have hl : LINE = 16777216 := rfl
  rw [mul_lst (by rw [List.length_singleton, Nat.one_mul]; exact hn) (by omega)]
  congr 2
  induction n with
  | zero => rfl
  | succ n ih => rw [List.replicate_succ, List.flatten_cons, ih (by omega), List.replicate_succ]; rfl
theorem rng_n {n : Nat} (h : n < 1000000000) : rngD 0 (n : Int) = .ok ((List.range n).map fun i => .int (i : Nat)) := by
  rw [rng_0 h]
  unfold rngL
  rw [List.map_map]
  congr 2
  funext i
  simp
theorem rng_get {n i : Nat} {x : D} (h : ((List.range n).map fun i => D.int (i : Nat))[i]? = some x) : i < n ∧ x = .int (i : Nat) := by
  have hi : i < n := by
    have := (List.getElem?_eq_some_iff.mp h).1
    simpa using this
  rw [List.getElem?_map, List.getElem?_range hi] at h
  exact ⟨hi, (Option.some.inj h).symm⟩
theorem rng2_n {a b : Nat} (ha : a < 1000000000) (hb : b < 1000000000) : rngD (a : Int) (b : Int) = .ok ((List.range (b - a)).map fun i => .int ((a + i : Nat) : Int)) := by
  rw [rngD_eq (by omega)]
  have e : ((b : Int) - (a : Int)).toNat = b - a := by omega
  rw [e]
  unfold rngL
  rw [List.map_map]
  congr 2
/-- a note or a hole -/
def oD : Option Int → D
  | none => .non
  | some i => .int i
@[simp] theorem oD_none : oD none = .non := via rfl
@[simp] theorem oD_some {i : Int} : oD (some i) = .int i := via rfl
/-- does the note at place i agree -/
def okAt (col : List Int) (giv : List (Option Int)) (i : Nat) : Bool := match giv[i]?, col[i]? with
  | some (some g), some c => g == c
  | _, _ => true
theorem okAt_eq {col : List Int} {giv : List (Option Int)} {i : Nat} (h : i < giv.length) (g : i < col.length) : okAt col giv i = (match giv[i] with | some z => z == col[i] | none => true) := by
  unfold okAt
  rw [List.getElem?_eq_getElem h, List.getElem?_eq_getElem g]
  cases giv[i] <;> rfl
theorem range_all {n : Nat} {p : Nat → Bool} {i : Nat} (hi : i < n) (h : p i = false) : (List.range n).all p = false := by
  rw [Bool.eq_false_iff]
  intro z
  rw [List.all_eq_true] at z
  rw [z i (List.mem_range.mpr hi)] at h
  cases h
theorem range_allT {n : Nat} {p : Nat → Bool} (h : ∀ i, i < n → p i = true) : (List.range n).all p = true := by
  rw [List.all_eq_true]
  exact fun i hi => h i (List.mem_range.mp hi)
theorem oD_at {giv : List (Option Int)} {i : Nat} (h : i < giv.length) : (giv.map oD)[i]? = some (oD giv[i]) := by rw [List.getElem?_map, List.getElem?_eq_getElem h]; rfl
theorem int_at {col : List Int} {i : Nat} (h : i < col.length) : (col.map D.int)[i]? = some (.int col[i]) := by rw [List.getElem?_map, List.getElem?_eq_getElem h]; rfl
/-- what is to be said of a column's notes -/
def totB (col : List Int) (giv : List (Option Int)) (pr : Nat → Int) : Nat → Int
  | 0 => 0
  | i + 1 => totB col giv pr i + if okAt col giv i then 0 else pr i
theorem clb_ints (ps : List Int) : clb (.lst (ps.map .int)) = true := by
  show (ps.map D.int).all (D.cl 4) = true
  rw [List.all_eq_true]
  intro x hx
  obtain ⟨i, _, rfl⟩ := List.mem_map.mp hx
  rfl
theorem eq_lst {a b : List D} (h : clb (.lst a) = true) (g : clb (.lst b) = true) : cmpD .eq (.lst a) (.lst b) = .ok (decide (D.lst a = D.lst b)) := by
  show (if (clb (.lst a) && clb (.lst b)) = true then _ else _) = _
  rw [h, g]; rfl
theorem ne_lst {a b : List D} (h : clb (.lst a) = true) (g : clb (.lst b) = true) : cmpD .ne (.lst a) (.lst b) = .ok (!decide (D.lst a = D.lst b)) := by
  show (cmpD .eq (.lst a) (.lst b) >>= fun c => R.ok (!c)) = _
  rw [eq_lst h g]; rfl
/-- a body behind its first statements -/
def dropS : Nat → Sms → Sms
  | 0, b => b
  | n + 1, .cons _ r => dropS n r
  | n + 1, .frz _ r => dropS n r
  | _ + 1, .nil => .nil
/-- the body of the first loop -/
def loopB : Sms → Sms
  | .cons (.for_ _ _ b) _ => b
  | .cons (.whl _ b) _ => b
  | _ => .nil
end Fv
end
section
namespace Fv
open PySem
/-- a law's own name: its slots -/
def aStirred : Df := ⟨2, 7, [], (.cons (.set 2 (.cst (.int 0))) (.cons (.set 3 (.bin .add (.bin .mod (.bin .add (.bin .mod (.var 0) (.cst (.int 998244341))) (.bin .mul (.cst (.int 7919)) (.var 1))) (.cst (.int 998244353))) (.cst (.int 3)))) (.cons (.for_ (.one 4) (.rng (.cst (.int 4))) (.cons (.setT [5, 6] (.bi .divmod (.cons (.var 3) (.cons (.cst (.int 4099)) .nil)))) (.cons (.set 3 (.bin .mod (.bin .add (.bin .add (.bin .add (.bin .mul (.var 6) (.cst (.int 240007))) (.bin .mul (.var 5) (.cst (.int 89)))) (.bin .mul (.cst (.int 1201)) (.var 4))) (.cst (.int 11))) (.cst (.int 998244353)))) (.cons (.set 2 (.bin .add (.bin .mul (.var 2) (.cst (.int 998244353))) (.var 3))) .nil)))) (.cons (.ret (.var 2)) .nil))))⟩
def aGot : Df := ⟨2, 4, [], (.cons (.for_ (.one 2) (.seq (.slc (.var 0) (.var 1) (.bin .add (.var 1) (.cst (.int 1))))) (.cons (.set 3 (.cst (.int 1))) (.cons (.whl (.cmp .le (.var 3) (.bi .abs (.cons (.var 2) .nil))) (.cons (.set 3 (.bin .mul (.var 3) (.bin .pow (.cst (.int 10)) (.cst (.int 6))))) .nil)) (.cons (.ret (.bin .add (.bi .abs (.cons (.var 2) .nil)) (.bin .mul (.var 3) (.call "_law_stirred" (.cons (.bi .abs (.cons (.var 2) .nil)) (.cons (.var 1) .nil)))))) .nil)))) (.cons (.ret (.cst (.int 0))) .nil))⟩
def stirStep (p : Int × Int) (t : Int) : Int × Int :=
  let r := (p.2 % 4099 * 240007 + p.2 / 4099 * 89 + 1201 * t + 11) % 998244353
  (p.1 * 998244353 + r, r)
def stirred (c p : Int) : Int := (stirStep (stirStep (stirStep (stirStep (0, (c % 998244341 + 7919 * p) % 998244353 + 3) 0) 1) 2) 3).1
variable {defs : List (String × Df)}
theorem stirStep_bd {p : Int × Int} {t : Int} : 0 ≤ (stirStep p t).2 ∧ (stirStep p t).2 < 998244353 := ⟨Int.emod_nonneg _ (by decide), Int.emod_lt_of_pos _ (by decide)⟩
theorem stirStep_ge {p : Int × Int} {t : Int} {b : Int} (h : 0 ≤ p.1 ∧ p.1 ≤ b) : 0 ≤ (stirStep p t).1 ∧ (stirStep p t).1 ≤ b * 998244353 + 998244353 := by
  have := @stirStep_bd p t
  show 0 ≤ p.1 * 998244353 + (stirStep p t).2 ∧ p.1 * 998244353 + (stirStep p t).2 ≤ _
  omega
theorem stirred_ge (c p : Int) : 0 ≤ stirred c p ∧ stirred c p < 2 ^ 130 := by
  unfold stirred
  have h0 := @stirStep_ge (0, (c % 998244341 + 7919 * p) % 998244353 + 3) 0 0 ⟨Int.le_refl 0, Int.le_refl 0⟩
  have h1 := @stirStep_ge _ 1 _ h0
  have h2 := @stirStep_ge _ 2 _ h1
  have h3 := @stirStep_ge _ 3 _ h2
  exact ⟨h3.1, Int.lt_of_le_of_lt h3.2 (by decide)⟩
def bStirred : Sms := .cons (.setT [5, 6] (.bi .divmod (.cons (.var 3) (.cons (.cst (.int 4099)) .nil)))) (.cons (.set 3 (.bin .mod (.bin .add (.bin .add (.bin .add (.bin .mul (.var 6) (.cst (.int 240007))) (.bin .mul (.var 5) (.cst (.int 89)))) (.bin .mul (.cst (.int 1201)) (.var 4))) (.cst (.int 11))) (.cst (.int 998244353)))) (.cons (.set 2 (.bin .add (.bin .mul (.var 2) (.cst (.int 998244353))) (.var 3))) .nil))
theorem stir_body {Γ : Fns} (c p : Int) (q : Int × Int) (t : Int) (y z : Sl) (h1 : 0 ≤ q.1 ∧ q.1 < 2 ^ 140) (h2 : 0 ≤ q.2 ∧ q.2 < 998244400) (h3 : 0 ≤ t ∧ t < 4) :
    exes Γ bStirred [.fz (.int c), .fz (.int p), .fz (.int q.1), .fz (.int q.2), .fz (.int t), y, z] = .nx [.fz (.int c), .fz (.int p), .fz (.int (stirStep q t).1), .fz (.int (stirStep q t).2), .fz (.int t), .fz (.int (q.2 / 4099)), .fz (.int (q.2 % 4099))] := by
  obtain ⟨a, b⟩ := q
  simp only [] at h1 h2
  have e1 : b / 4099 < 1000000 := by omega
  simp [bStirred]
  repeat (simp (disch := omega) only [mul_sm]; simp)
  exact ⟨rfl, rfl⟩
theorem stirred_eq (hd : defs.lookup "_law_stirred" = some aStirred) (k : Nat) (c p : Int) (hp : 0 ≤ p ∧ p < 1000000) : mirN defs (k + 1) "_law_stirred" [.int c, .int p] = .ok (.d (.int (stirred c p))) := by
  refine (mirN_run hd _).trans ((run_0 rfl).trans ?_)
  simp [aStirred]
  simp (disch := omega) only [mul_sm]
  simp
  have q0 : 0 ≤ (c % 998244341 + 7919 * p) % 998244353 + 3 ∧ (c % 998244341 + 7919 * p) % 998244353 + 3 < 998244400 := by omega
  have h1 := @stirStep_ge (0, (c % 998244341 + 7919 * p) % 998244353 + 3) 0 0 ⟨Int.le_refl 0, Int.le_refl 0⟩
  have h2 := @stirStep_ge _ 1 _ h1
  have h3 := @stirStep_ge _ 2 _ h2
  have b1 := @stirStep_bd (0, (c % 998244341 + 7919 * p) % 998244353 + 3) 0
  have b2 := fun q => @stirStep_bd q 1
  have b3 := fun q => @stirStep_bd q 2
  rw [show (Sms.cons (Sm.setT [5, 6] (Ex.bi Bi.divmod (Exs.cons (Ex.var 3) (Exs.cons (Ex.cst (D.int 4099)) Exs.nil)))) _ : Sms) = bStirred from rfl]
  rw [forL_cons]; simp only [set_one, Out.of_ok, List.set_cons_succ, List.set_cons_zero]
  rw [stir_body c p (0, (c % 998244341 + 7919 * p) % 998244353 + 3) 0 _ _ (by simp) q0 (by decide), turn_nx]
  rw [forL_cons]; simp only [set_one, Out.of_ok, List.set_cons_succ, List.set_cons_zero]
  rw [stir_body c p _ 1 _ _ (by omega) (by omega) (by decide), turn_nx]
  rw [forL_cons]; simp only [set_one, Out.of_ok, List.set_cons_succ, List.set_cons_zero]
  rw [stir_body c p _ 2 _ _ (by omega) (by have := b2 (stirStep (0, (c % 998244341 + 7919 * p) % 998244353 + 3) 0); omega) (by decide), turn_nx]
  rw [forL_cons]; simp only [set_one, Out.of_ok, List.set_cons_succ, List.set_cons_zero]
  rw [stir_body c p _ 3 _ _ (by omega) (by have := b3 (stirStep (stirStep (0, (c % 998244341 + 7919 * p) % 998244353 + 3) 0) 1); omega) (by decide), turn_nx]
  simp [stirred]
theorem cut_one (ns : List Int) (p : Nat) : cut ns (some (p : Int)) (some ((p : Int) + 1)) = match ns[p]? with | some z => [z] | none => [] := by
  unfold cut
  rw [show ((p : Int) + 1) = ((p + 1 : Nat) : Int) from by omega, HT.sIx_nat, HT.sIx_nat]
  by_cases h : p < ns.length
  · rw [List.getElem?_eq_getElem h, Nat.min_eq_left (Nat.le_of_lt h), Nat.min_eq_left h, List.drop_eq_getElem_cons h]
    show List.take (p + 1 - p) _ = _
    rw [show p + 1 - p = 1 from by omega]
    rfl
  · rw [List.getElem?_eq_none (by omega), List.drop_eq_nil_of_le (by omega), List.take_nil]
theorem two_le (j : Nat) : 2 ^ j ≤ 1000000 ^ j := Nat.pow_le_pow_left (by decide) j
theorem pow_step (j : Nat) : (1000000 : Int) ^ j * 1000000 = 1000000 ^ (j + 1) := by rw [Int.pow_succ]
theorem pow_bt {j : Nat} {c : Int} (h : j = 0 ∨ (1000000 : Int) ^ (j - 1) ≤ c) (hc : Bt 1048576 c) : Bt 1048596 ((1000000 : Int) ^ j) ∧ j ≤ 1048577 := by
  rcases h with rfl | h
  · exact ⟨Bt.one (by decide), by decide⟩
  · cases j with
    | zero => exact ⟨Bt.one (by decide), by decide⟩
    | succ j =>
      rw [Nat.add_sub_cancel] at h
      have e : (1000000 : Int) ^ j = ((1000000 ^ j : Nat) : Int) := by rw [Int.natCast_pow]; rfl
      have b1 : Bt 1048576 ((1000000 : Int) ^ j) := hc.le (Int.pow_nonneg (by decide)) h
      refine ⟨?_, ?_⟩
      · rw [← pow_step]
        exact (b1.mul (n := 20) (by decide)).mono (by decide)
      · have h2 : 2 ^ j < 2 ^ 1048576 := by
          have b2 : ((1000000 : Int) ^ j).natAbs < 2 ^ 1048576 := b1
          rw [e, Int.natAbs_natCast] at b2
          exact Nat.lt_of_le_of_lt (two_le j) b2
        exact Nat.le_trans ((Nat.pow_lt_pow_iff_right (by decide : 1 < 2)).mp h2) (by decide)
/-- the first power of a million above a -/
def isPow (a : Int) (j : Nat) : Prop := (j = 0 ∨ (1000000 : Int) ^ (j - 1) ≤ a) ∧ a < 1000000 ^ j
theorem isPow_le {a : Int} {i j : Nat} (h : isPow a i) (g : isPow a j) : i ≤ j := by
  by_cases hle : i ≤ j
  · exact hle
  · exfalso
    rcases h.1 with h1 | h1
    · omega
    · have e : (1000000 : Int) ^ j ≤ 1000000 ^ (i - 1) := by
        have := Nat.pow_le_pow_right (n := 1000000) (by decide) (show j ≤ i - 1 by omega)
        have e1 : ∀ n : Nat, (1000000 : Int) ^ n = ((1000000 ^ n : Nat) : Int) := fun n => by rw [Int.natCast_pow]; rfl
        rw [e1, e1]
        exact Int.ofNat_le.mpr this
      exact absurd (Int.lt_of_lt_of_le g.2 (Int.le_trans e h1)) (Int.lt_irrefl _)
noncomputable def powJ (a : Int) : Nat := by
  classical
  exact if h : ∃ j, isPow a j then h.choose else 0
theorem powJ_eq {a : Int} {j : Nat} (h : isPow a j) : powJ a = j := by
  unfold powJ
  have hx : ∃ j, isPow a j := ⟨j, h⟩
  rw [dif_pos hx]
  exact Nat.le_antisymm (isPow_le hx.choose_spec h) (isPow_le h hx.choose_spec)
def ab (z : Int) : Int := if z < 0 then -z else z
noncomputable def gotV (ns : List Int) (p : Nat) : Int := match ns[p]? with
  | some z => ab z + 1000000 ^ powJ (ab z) * stirred (ab z) p
  | none => 0
/-- numbers of a script -/
def Sc (ns : List Int) : Prop := ns.length ≤ 63 ∧ ∀ z ∈ ns, Bt 1048576 z
theorem got_eq (hd : defs.lookup "_law_got" = some aGot) (hs : defs.lookup "_law_stirred" = some aStirred) (k : Nat) {ns : List Int} {p : Nat} (hp : p < 1000000) (hb : Sc ns) :
    mirN defs (k + 2) "_law_got" [.scr ns, .int p] = .ok (.d (.int (gotV ns p))) ∧ 0 ≤ gotV ns p ∧ Bt 1100000 (gotV ns p) := by
  have e : mirN defs (k + 2) "_law_got" [.scr ns, .int p] = _ := (mirN_run hd _).trans (run_0 rfl)
  rw [e]
  simp [aGot, slcD, cut_one]
  unfold gotV
  cases hn : ns[p]? with
  | none => exact ⟨by simp, Int.le_refl 0, Bt.zero⟩
  | some z =>
    have hz := hb.2 z (List.mem_of_getElem? hn)
    simp [forL_cons]
    generalize ha : (if z < 0 then -z else z) = a
    have ha' : ab z = a := ha
    rw [ha']
    have a0 : 0 ≤ a ∧ a.natAbs = z.natAbs := by subst ha; split <;> omega
    have hab : Bt 1048576 a := hz.same a0.2
    refine whl_rule (R := fun o => ((turn (o.thn _) _ _).thn _).val = R.ok (Val.d (.int _)) ∧ _) (fun n S => ∃ j : Nat, n + j = 1048600 ∧ (j = 0 ∨ (1000000 : Int) ^ (j - 1) ≤ a) ∧ S = [.fz (.scr ns), .fz (.int p), .fz (.int z), .fz (.int (1000000 ^ j))]) ?_ 1048600 FUEL _ (by decide) ⟨0, rfl, .inl rfl, rfl⟩
    rintro n S ⟨j, hj, hc, rfl⟩
    obtain ⟨b1, b2⟩ := pow_bt hc hab
    refine ⟨decide ((1000000 : Int) ^ j ≤ a), by simp [ha], fun h => ?_, fun h => ?_⟩
    · have st := stirred_eq hs k a p ⟨by omega, by omega⟩
      have sb := stirred_ge a p
      have sB : Bt 130 (stirred a p) := Bt.of sb.1 sb.2
      have p0 : (0 : Int) ≤ 1000000 ^ j := Int.pow_nonneg (by decide)
      have ej : powJ a = j := powJ_eq ⟨hc, Int.not_le.mp (of_decide_eq_false h)⟩
      rw [ej]
      refine ⟨?_, by have := Int.mul_nonneg p0 sb.1; omega, (Bt.add hab (b1.mul sB)).mono (by decide)⟩
      simp [ha, st, mul_int (mulOk_bt b1 sB (by decide))]
    · have h := of_decide_eq_true h
      refine ⟨n - 1, by omega, ?_⟩
      simp
      rw [mul_int (mulOk_bt b1 (n := 20) (by decide) (by decide))]
      simp
      exact ⟨j + 1, by omega, .inr (by rw [Nat.add_sub_cancel]; exact h), by rw [pow_step]⟩
theorem got_lt {ns : List Int} (p : Nat) (h : Sc ns) : 0 ≤ gotV ns p ∧ Bt 1100000 (gotV ns p) := by
  unfold gotV
  cases hn : ns[p]? with
  | none => exact ⟨Int.le_refl 0, Bt.zero⟩
  | some z =>
    have hz := h.2 z (List.mem_of_getElem? hn)
    have e : ∃ j, isPow (ab z) j := by
      refine Classical.byContradiction fun hne => ?_
      have all : ∀ j, (1000000 : Int) ^ j ≤ ab z := by
        intro j
        induction j with
        | zero =>
          refine Int.not_lt.mp fun hlt => hne ⟨0, .inl rfl, hlt⟩
        | succ j ih => exact Int.not_lt.mp fun hlt => hne ⟨j + 1, .inr ih, hlt⟩
      have h1 := all (ab z).toNat
      have h2 : (ab z).toNat < 1000000 ^ (ab z).toNat := Nat.lt_pow_self (by decide)
      have e1 : (1000000 : Int) ^ (ab z).toNat = ((1000000 ^ (ab z).toNat : Nat) : Int) := by rw [Int.natCast_pow]; rfl
      rw [e1] at h1
      have h0 : 0 ≤ ab z := by unfold ab; split <;> omega
      omega
    obtain ⟨j, hj⟩ := e
    have a0 : 0 ≤ ab z ∧ (ab z).natAbs = z.natAbs := by unfold ab; split <;> omega
    have hab : Bt 1048576 (ab z) := hz.same a0.2
    obtain ⟨b1, b2⟩ := pow_bt hj.1 hab
    have sb := stirred_ge (ab z) p
    have sB : Bt 130 (stirred (ab z) p) := Bt.of sb.1 sb.2
    have p0 : (0 : Int) ≤ 1000000 ^ j := Int.pow_nonneg (by decide)
    show 0 ≤ ab z + 1000000 ^ powJ (ab z) * stirred (ab z) p ∧ Bt 1100000 (ab z + 1000000 ^ powJ (ab z) * stirred (ab z) p)
    rw [powJ_eq hj]
    exact ⟨by have := Int.mul_nonneg p0 sb.1; omega, (Bt.add hab (b1.mul sB)).mono (by decide)⟩
theorem script_sc {ns : List Int} (hl : ns.length ≤ 63) (h : ∀ z ∈ ns, Builtin.Int.intBits z ≤ 1048576) : Sc ns := ⟨hl, fun z hz => by
  have h1 := h z hz
  unfold Builtin.Int.intBits at h1
  by_cases hz : z = 0
  · rw [hz]; exact Bt.zero
  · have hb : (z == 0) = false := by simpa using hz
    rw [hb] at h1
    have h2 : z.natAbs.log2 + 1 ≤ 1048576 := h1
    exact (Nat.log2_lt (by omega)).mp h2⟩
/-- cells of a script, first to last -/
def aCells : Df := ⟨3, 4, [], (.cons (.ret (.lc [("_law_k", 3)] (.one 3) (.rng2 (.var 1) (.bi .min2 (.cons (.var 2) (.cons (.bi .len (.cons (.var 0) .nil)) .nil)))) (.cst (.bl true)) (.call "_law_got" (.cons (.var 0) (.cons (.var 3) .nil))))) .nil)⟩
theorem cells_at (hc : defs.lookup "_law_cells" = some aCells) (hd : defs.lookup "_law_got" = some aGot) (hs : defs.lookup "_law_stirred" = some aStirred) (k a b : Nat) (ha : a < 1000) (hb : b < 1000) {ns : List Int} (h : Sc ns) :
    mirN defs (k + 3) "_law_cells" [.scr ns, .int (a : Int), .int (b : Int)] = .ok (.fr ((List.range (min b ns.length - a)).map fun i => .int (gotV ns (a + i)))) := by
  refine (mirN_run hc _).trans ((run_0 rfl).trans ?_)
  have hl := h.1
  have e : (if ns.length < b then (ns.length : Int) else (b : Int)) = ((min b ns.length : Nat) : Int) := by split <;> omega
  have rg := rng2_n (a := a) (b := min b ns.length) (by omega) (by omega)
  have cc : ∀ n, n ≤ 1000 → compL (Tg.one 3) [.fz (.scr ns), .fz (.int a), .fz (.int b), .no] (evT (mirN defs (k + 2)) (.cst (.bl true))) (elt (mirN defs (k + 2)) (.call "_law_got" (.cons (.var 0) (.cons (.var 3) .nil)))) ((List.range n).map fun i => .int ((a + i : Nat) : Int)) [] = .ok ((List.range n).map fun i => .int (gotV ns (a + i))) := fun n hn => by
    rw [compL_map (fun i : Nat => D.int ((a + i : Nat) : Int)) (fun i => .int (gotV ns (a + i))) (List.range n) [] fun i hi => ⟨_, rfl, by simp, by
      have hi := List.mem_range.mp hi
      have g := (got_eq hd hs k (show a + i < 1000000 by omega) h).1
      show elt (mirN defs (k + 2)) (.call "_law_got" (.cons (.var 0) (.cons (.var 3) .nil))) [.fz (.scr ns), .fz (.int a), .fz (.int b), .fz (.int ((a + i : Nat) : Int))] = _
      generalize ((a + i : Nat) : Int) = q at g ⊢
      simp [g]⟩]
    rfl
  have cc := cc (min b ns.length - a) (by omega)
  have l6 : min b ns.length - a ≤ 16777216 := by omega
  generalize (List.range (min b ns.length - a)).map (fun i => D.int (gotV ns (a + i))) = z at cc ⊢
  generalize hX : (List.range (min b ns.length - a)).map (fun i => D.int ((a + i : Nat) : Int)) = X at cc rg
  have xl : X.length ≤ 16777216 := by rw [← hX]; simpa using l6
  simp [aCells, wipeS, e, rg, cc, xl]
end Fv
end
section
namespace Fv
open PySem
/-- plain signs, not too many -/
def Pl (n : Nat) (s : Tx) : Prop := s.all (· < 128) = true ∧ s.length ≤ n
theorem Pl.mono {m n : Nat} {s : Tx} (h : Pl m s) (e : m ≤ n) : Pl n s := ⟨h.1, Nat.le_trans h.2 e⟩
theorem Pl.nil {n : Nat} : Pl n [] := ⟨rfl, Nat.zero_le _⟩
theorem Pl.app {m n : Nat} {a b : Tx} (h : Pl m a) (g : Pl n b) : Pl (m + n) (a ++ b) := ⟨by rw [List.all_append, h.1, g.1]; rfl, by rw [List.length_append]; exact Nat.add_le_add h.2 g.2⟩
theorem Pl.drop {n : Nat} {a : Tx} (h : Pl n a) (k : Nat) : Pl n (a.drop k) := ⟨List.all_eq_true.mpr fun x hx => List.all_eq_true.mp h.1 x (List.mem_of_mem_drop hx), by rw [List.length_drop]; exact Nat.le_trans (Nat.sub_le _ _) h.2⟩
theorem Pl.take {n : Nat} {a : Tx} (h : Pl n a) (k : Nat) : Pl n (a.take k) := ⟨List.all_eq_true.mpr fun x hx => List.all_eq_true.mp h.1 x (List.mem_of_mem_take hx), by rw [List.length_take]; exact Nat.le_trans (Nat.min_le_right _ _) h.2⟩
theorem Pl.one {c : Nat} (h : c < 128) : Pl 1 [c] := ⟨by simp [h], Nat.le_refl _⟩
theorem clb_str {s : Tx} (h : Pl 16777216 s) : clb (.str s) = true := by
  show (s.all (· < 128) && decide (s.length ≤ LINE)) = true
  rw [h.1, decide_eq_true h.2]; rfl
theorem dstr_inj {a b : Tx} : (D.str a = D.str b) ↔ a = b := ⟨fun h => by injection h, fun h => by rw [h]⟩
theorem eq_str {a b : Tx} (h : Pl 16777216 a) (g : Pl 16777216 b) : cmpD .eq (.str a) (.str b) = .ok (decide (a = b)) := by
  show (if (clb (.str a) && clb (.str b)) = true then R.ok (decide (D.str a = D.str b)) else _) = _
  rw [clb_str h, clb_str g]
  show R.ok (decide (D.str a = D.str b)) = _
  congr 1
  exact decide_eq_decide.mpr dstr_inj
theorem ne_str {a b : Tx} (h : Pl 16777216 a) (g : Pl 16777216 b) : cmpD .ne (.str a) (.str b) = .ok (!decide (a = b)) := by
  show (cmpD .eq (.str a) (.str b) >>= fun c => R.ok (!c)) = _
  rw [eq_str h g]; rfl
@[simp] theorem add_str {a b : Tx} (h : a.length + b.length ≤ 16777216) : binD .add (.str a) (.str b) = .ok (.d (.str (a ++ b))) := if_pos h
@[simp] theorem add_lst {a b : List D} (h : a.length + b.length ≤ 16777216) : binD .add (.lst a) (.lst b) = .ok (.fr (a ++ b)) := if_pos h
theorem mul_str {c : Nat} {n : Nat} (h : n ≤ 10000) : binD .mul (.str [c]) (.int (n : Int)) = .ok (.d (.str (List.replicate n c))) := by
  show (if _ ∧ _ ∧ _ ∧ _ then _ else _) = _
  rw [Int.toNat_natCast, if_pos (by refine ⟨?_, rfl, by omega, by omega⟩; rw [List.length_singleton]; show 1 * n ≤ 16777216; omega)]
  congr 3
  induction n with
  | zero => rfl
  | succ n ih => rw [List.replicate_succ, List.flatten_cons, ih (by omega), List.replicate_succ]; rfl
theorem inTx_one (s : Tx) (c : Nat) : inTx [c] s = decide (c ∈ s) := by
  have z := SX.in_one s c
  rw [SX.S_len] at z
  exact z
@[simp] theorem in_one {s : Tx} {c : Nat} : cmpD .inn (.str [c]) (.str s) = .ok (decide (c ∈ s)) := by
  show R.ok (inTx [c] s) = _
  rw [inTx_one]
@[simp] theorem nin_one {s : Tx} {c : Nat} : cmpD .nin (.str [c]) (.str s) = .ok (!decide (c ∈ s)) := by
  show R.ok (!inTx [c] s) = _
  rw [inTx_one]
theorem sub_str {s : Tx} {i : Nat} {c : Nat} (h : s[i]? = some c) (hl : s.length ≤ 16777216) : subD (.str s) (.int (i : Int)) = .ok (.str [c]) := by
  have hi : i < s.length := (List.getElem?_eq_some_iff.mp h).1
  show (if s.length ≤ LINE then optR ((ixOf s.length (i : Int)).bind (s[·]?)) (fun x => R.ok (D.str [x])) else R.bad) = _
  rw [if_pos hl, ixOf_nat hi]
  show optR (s[i]?) _ = _
  rw [h]; rfl
theorem cut_to {α : Type} (xs : List α) (n : Nat) : cut xs none (some (n : Int)) = xs.take n := by
  unfold cut
  rw [HT.sIx_none, HT.sIx_nat, List.drop_zero, Nat.sub_zero]
  by_cases h : n ≤ xs.length
  · rw [Nat.min_eq_left h]
  · rw [Nat.min_eq_right (by omega), List.take_length, List.take_of_length_le (by omega)]
theorem cut_from {α : Type} (xs : List α) (n : Nat) : cut xs (some (n : Int)) none = xs.drop n := by
  unfold cut
  rw [HT.sIx_none, HT.sIx_nat]
  by_cases h : n ≤ xs.length
  · rw [Nat.min_eq_left h, List.take_of_length_le (by rw [List.length_drop]; omega)]
  · rw [Nat.min_eq_right (by omega), List.drop_length, List.drop_eq_nil_of_le (by omega), List.take_nil]
theorem cut_mid {α : Type} (xs : List α) (m n : Nat) : cut xs (some (m : Int)) (some (n : Int)) = (xs.drop m).take (n - m) := by
  unfold cut
  rw [HT.sIx_nat, HT.sIx_nat]
  by_cases h : m ≤ xs.length
  · rw [Nat.min_eq_left h]
    by_cases g : n ≤ xs.length
    · rw [Nat.min_eq_left g]
    · rw [Nat.min_eq_right (show xs.length ≤ n by omega), List.take_of_length_le (by rw [List.length_drop]; omega), List.take_of_length_le (by rw [List.length_drop]; omega)]
  · rw [Nat.min_eq_right (show xs.length ≤ m by omega), List.drop_length, List.drop_eq_nil_of_le (show xs.length ≤ m by omega), List.take_nil, List.take_nil]
theorem slc_str_to {s : Tx} {n : Nat} (h : s.length ≤ 16777216) : slcD (.str s) none (some (n : Int)) = .ok (.d (.str (s.take n))) := by
  show (if s.length ≤ LINE then R.ok (Val.d (.str (cut s none (some (n : Int))))) else .bad) = _
  rw [if_pos h, cut_to]
theorem slc_str_from {s : Tx} {n : Nat} (h : s.length ≤ 16777216) : slcD (.str s) (some (n : Int)) none = .ok (.d (.str (s.drop n))) := by
  show (if s.length ≤ LINE then R.ok (Val.d (.str (cut s (some (n : Int)) none))) else .bad) = _
  rw [if_pos h, cut_from]
theorem slc_lst_to {s : List D} {n : Nat} : slcD (.lst s) none (some (n : Int)) = .ok (.fr (s.take n)) := by
  show R.ok (Val.fr (cut s none (some (n : Int)))) = _
  rw [cut_to]
theorem slc_lst_from {s : List D} {n : Nat} : slcD (.lst s) (some (n : Int)) none = .ok (.fr (s.drop n)) := by
  show R.ok (Val.fr (cut s (some (n : Int)) none)) = _
  rw [cut_from]
theorem itx_nat (n : Nat) : itx (n : Int) = TL.numL n := by
  unfold itx
  rw [SX.num_S]
theorem itx_neg (n : Nat) : itx (-((n + 1 : Nat) : Int)) = 45 :: TL.numL (n + 1) := by
  unfold itx
  have e : toString (-((n + 1 : Nat) : Int)) = "-" ++ Nat.repr (n + 1) := rfl
  have f : toString (((n + 1 : Nat) : Nat) : Int) = Nat.repr (n + 1) := rfl
  have g := TL.tl_num (n + 1)
  rw [f] at g
  rw [e]
  have h : ∀ x : String, (Str.ofString x).cps.toList = x.toList.map Char.toNat := PyProof.Rows.signs_ofString
  rw [h, String.toList_append, List.map_append]
  have g2 : (Str.ofString (Nat.repr (n + 1))).cps.toList = TL.numL (n + 1) := g
  rw [h] at g2
  rw [g2]
  rfl
theorem numL_pl {n k : Nat} (hk : 0 < k) (h : n < 10 ^ k) : Pl k (TL.numL n) := by
  refine ⟨List.all_eq_true.mpr fun c hc => ?_, TL.numL_len hk h⟩
  have := TL.numL_digits n c hc
  exact decide_eq_true (by omega)
theorem itx_pl {i : Int} {k : Nat} (hk : 0 < k) (h : i.natAbs < 10 ^ k) : Pl (k + 1) (itx i) := by
  obtain ⟨n, rfl | rfl⟩ : ∃ n : Nat, i = n ∨ i = -((n + 1 : Nat) : Int) := by
    by_cases h0 : 0 ≤ i
    · exact ⟨i.toNat, .inl (by omega)⟩
    · exact ⟨(-i).toNat - 1, .inr (by omega)⟩
  · rw [itx_nat]
    exact (numL_pl hk (by simpa using h)).mono (by omega)
  · rw [itx_neg]
    have := numL_pl (n := n + 1) hk (by rw [Int.natAbs_neg, Int.natAbs_natCast] at h; exact h)
    exact ⟨by rw [List.all_cons, this.1]; rfl, by rw [List.length_cons]; exact Nat.succ_le_succ this.2⟩
theorem bi_str_int {i : Int} (h : Bt 1900 i) : biD .str [.int i] = .ok (.d (.str (itx i))) := by
  have := h.log
  exact if_pos (by omega)
theorem ten_text (n : Nat) (h : n ≤ 600) : intOf (49 :: List.replicate n 48) = some ((10 ^ n : Nat) : Int) := by
  unfold intOf
  have e := SX.int_S (a := 49 :: List.replicate n 48) (by
    rw [List.all_cons]
    have : (List.replicate n 48).all (fun c => decide (48 ≤ c) && decide (c ≤ 57)) = true := List.all_eq_true.mpr fun x hx => by
      rw [(List.mem_replicate.mp hx).2]; rfl
    rw [this]; rfl) (by simp) (by rw [List.length_cons, List.length_replicate]; omega)
  rw [show (⟨(49 :: List.replicate n 48).toArray⟩ : Str) = SX.S (49 :: List.replicate n 48) from rfl, e]
  congr 2
  unfold NumText.digitsVal
  rw [List.foldl_cons]
  have key : ∀ (n a : Nat), List.foldl (fun acc c => acc * 10 + (c - 48)) a (List.replicate n 48) = a * 10 ^ n := by
    intro n
    induction n with
    | zero => intro a; rw [Nat.pow_zero, Nat.mul_one]; rfl
    | succ n ih => intro a; rw [List.replicate_succ, List.foldl_cons, ih, Nat.pow_succ]; rw [show a * 10 + (48 - 48) = a * 10 from rfl, Nat.mul_assoc, Nat.mul_comm 10]
  rw [key]
  rw [show 0 * 10 + (49 - 48) = 1 from rfl, Nat.one_mul]
theorem bi_int_ten {n : Nat} (h : n ≤ 600) : biD .int [.str (49 :: List.replicate n 48)] = .ok (.d (.int ((10 ^ n : Nat) : Int))) := by
  show (if (49 :: List.replicate n 48).length ≤ 640 then optR (intOf (49 :: List.replicate n 48)) (fun n => R.ok (Val.d (D.int n))) else R.bad) = _
  rw [if_pos (by rw [List.length_cons, List.length_replicate]; omega), ten_text n h]
  rfl
/-- some item of a list -/
theorem sub_lst_in {xs : List D} {i : Int} (h : 0 ≤ i ∧ i < xs.length) : ∃ x, x ∈ xs ∧ subD (.lst xs) (.int i) = .ok x := by
  obtain ⟨n, rfl⟩ : ∃ n : Nat, i = n := ⟨i.toNat, by omega⟩
  have hn : n < xs.length := by omega
  exact ⟨xs[n], List.getElem_mem hn, sub_lst (List.getElem?_eq_getElem hn)⟩
theorem sub_str_in {xs : Tx} {i : Int} (h : 0 ≤ i ∧ i < xs.length) (hl : xs.length ≤ 16777216) : ∃ c, c ∈ xs ∧ subD (.str xs) (.int i) = .ok (.str [c]) := by
  obtain ⟨n, rfl⟩ : ∃ n : Nat, i = n := ⟨i.toNat, by omega⟩
  have hn : n < xs.length := by omega
  exact ⟨xs[n], List.getElem_mem hn, sub_str (List.getElem?_eq_getElem hn) hl⟩
theorem str_in_of {xs : Tx} {i : Int} {r : R D} (hr : subD (.str xs) (.int i) = r) (h : 0 ≤ i ∧ i < xs.length) (hl : xs.length ≤ 16777216) : ∃ c, c ∈ xs ∧ r = .ok (.str [c]) := by
  obtain ⟨c, h1, h2⟩ := sub_str_in h hl
  exact ⟨c, h1, hr.symm.trans h2⟩
theorem lst_in_of {xs : List D} {i : Int} {r : R D} (hr : subD (.lst xs) (.int i) = r) (h : 0 ≤ i ∧ i < xs.length) : ∃ x, x ∈ xs ∧ r = .ok x := by
  obtain ⟨c, h1, h2⟩ := sub_lst_in h
  exact ⟨c, h1, hr.symm.trans h2⟩
theorem pick_lst {xs : List D} {i : Int} {F : R D → R Val} {P : Tx → Prop} (hi : 0 ≤ i ∧ i < xs.length) (hx : ∀ x ∈ xs, ∃ w, x = .str w ∧ P w) (hF : ∀ w, F (.ok (.str w)) = .ok (.d (.str w))) : ∃ w, F (subD (.lst xs) (.int i)) = .ok (.d (.str w)) ∧ P w := by
  obtain ⟨x, h1, h2⟩ := sub_lst_in hi
  obtain ⟨w, rfl, h3⟩ := hx x h1
  exact ⟨w, by rw [h2, hF], h3⟩
theorem pick_str {xs : Tx} {i : Int} {F : R D → R Val} {P : Nat → Prop} (hi : 0 ≤ i ∧ i < xs.length) (hl : xs.length ≤ 16777216) (hx : ∀ x ∈ xs, P x) (hF : ∀ w, F (.ok (.str [w])) = .ok (.d (.str [w]))) : ∃ w, F (subD (.str xs) (.int i)) = .ok (.d (.str [w])) ∧ P w := by
  obtain ⟨x, h1, h2⟩ := sub_str_in hi hl
  exact ⟨x, by rw [h2, hF], hx x h1⟩
end Fv
end
section
set_option maxHeartbeats 1000000
namespace Fv
open PySem
def aIsNumber : Df := ⟨1, 3, [], (.cons (.set 1 (.var 0)) (.frz 1 (.cons (.ifs (.cmp .eq (.slcH (.var 0) (.cst (.int 1))) (.cst (.str [45]))) (.cons (.set 1 (.slcL (.var 0) (.cst (.int 1)))) (.frz 1 (.cons (.ifs (.cmp .eq (.var 1) (.cst (.str [48]))) (.cons (.ret (.cst (.bl false))) .nil) .nil) .nil))) .nil) (.cons (.ifs (.or (.cmp .eq (.var 1) (.cst (.str []))) (.cmp .gt (.bi .len (.cons (.var 1) .nil)) (.cst (.int 40)))) (.cons (.ret (.cst (.bl false))) .nil) .nil) (.cons (.ifs (.and (.cmp .eq (.sub (.var 1) (.cst (.int 0))) (.cst (.str [48]))) (.cmp .gt (.bi .len (.cons (.var 1) .nil)) (.cst (.int 1)))) (.cons (.ret (.cst (.bl false))) .nil) .nil) (.cons (.for_ (.one 2) (.seq (.var 1)) (.cons (.ifs (.cmp .nin (.var 2) (.cst (.str [48, 49, 50, 51, 52, 53, 54, 55, 56, 57]))) (.cons (.ret (.cst (.bl false))) .nil) .nil) .nil)) (.cons (.ret (.cst (.bl true))) .nil)))))))⟩
abbrev FIG : Tx := [48, 49, 50, 51, 52, 53, 54, 55, 56, 57]
/-- figures alone -/
def Dg (f : Tx) : Prop := ∀ c ∈ f, c ∈ FIG
instance (f : Tx) : Decidable (Dg f) := inferInstanceAs (Decidable (∀ c ∈ f, c ∈ FIG))
/-- figures as a number has them -/
def numF (f : Tx) : Prop := f ≠ [] ∧ f.length ≤ 40 ∧ ¬ (f[0]? = some 48 ∧ 1 < f.length) ∧ Dg f
instance (f : Tx) : Decidable (numF f) := inferInstanceAs (Decidable (_ ∧ _ ∧ ¬ (_ ∧ _) ∧ _))
/-- is the word a number -/
def numB : Tx → Bool
  | 45 :: r => decide (r ≠ [48] ∧ numF r)
  | w => decide (numF w)
theorem dig_loop {Γ : Fns} {a b : Sl} {T : Out → Prop} : ∀ (f : Tx) (c : Sl), (Dg f → ∀ c', T (.nx [a, b, c'])) → (¬ Dg f → T (.rt (.d (.bl false)))) →
    T (forL (Tg.one 2) (exes Γ (.cons (.ifs (.cmp .nin (.var 2) (.cst (.str [48, 49, 50, 51, 52, 53, 54, 55, 56, 57]))) (.cons (.ret (.cst (.bl false))) .nil) .nil) .nil)) (f.map fun c => .str [c]) [a, b, c])
  | [], c, h1, _ => h1 (fun _ h => nomatch h) c
  | x :: f, c, h1, h2 => by
    rw [List.map_cons, forL_cons]
    by_cases hx : x ∈ FIG
    · have ih := dig_loop (Γ := Γ) (a := a) (b := b) (T := T) f (.fz (.str [x])) (fun hd => h1 fun y hy => (List.mem_cons.mp hy).elim (fun e => e ▸ hx) (hd y)) (fun hn => h2 fun hd => hn fun y hy => hd y (List.mem_cons_of_mem _ hy))
      have e : decide (x ∈ FIG) = true := decide_eq_true hx
      simp only [set_one, Out.of_ok, List.set_cons_succ, List.set_cons_zero, exes_cons, exe_ifs, evT_def, evL_cmp', ev_cmp, evL_var, look_succ, look_fz, R.ok_bind, evL_cst, nin_one, e, D_d, truth_bl, Bool.not_true, pick_f, exes_nil, thn_nx, turn_nx]
      exact ih
    · have e : decide (x ∈ FIG) = false := decide_eq_false hx
      simp only [set_one, Out.of_ok, List.set_cons_succ, List.set_cons_zero, exes_cons, exe_ifs, evT_def, evL_cmp', ev_cmp, evL_var, look_succ, look_fz, R.ok_bind, evL_cst, nin_one, e, D_d, truth_bl, Bool.not_false, pick_t, ret_cst, thn_rt, turn_rt]
      exact h2 fun hd => hx (hd x (List.mem_cons_self ..))
theorem isnum_rest {Γ : Fns} (w f : Tx) (c : Sl) (h : Pl 1000 f) : (exes Γ (dropS 3 aIsNumber.body) [.fz (.str w), .fz (.str f), c]).val = .ok (.d (.bl (decide (numF f)))) := by
  have l1 := bi_len_str (s := f) (show f.length ≤ 16777216 from Nat.le_trans h.2 (by decide))
  have e0 := eq_str (h.mono (by decide)) (b := []) Pl.nil
  cases f with
  | nil => simp [dropS, aIsNumber, e0, l1, numF]
  | cons x r =>
    have s0 : subD (.str (x :: r)) (.int 0) = .ok (.str [x]) := sub_str (i := 0) rfl (Nat.le_trans h.2 (by decide))
    have hx : x < 128 := of_decide_eq_true (List.all_eq_true.mp h.1 x (List.mem_cons_self ..))
    have e1 := eq_str ((Pl.one hx).mono (by decide)) (b := [48]) (show Pl 16777216 [48] from ⟨rfl, by decide⟩)
    by_cases h40 : (40 : Int) < (r.length : Int) + 1
    · have hn : ¬ numF (x :: r) := fun z => by
        have := z.2.1
        rw [List.length_cons] at this
        omega
      simp [dropS, aIsNumber, e0, l1, s0, e1, h40, hn]
    · by_cases hz : x = 48 ∧ (0 : Int) < (r.length : Int)
      · obtain ⟨rfl, hz⟩ := hz
        have hn : ¬ numF (48 :: r) := fun z => z.2.2.1 ⟨rfl, by rw [List.length_cons]; omega⟩
        have hz1 : (1 : Int) < (r.length : Int) + 1 := by omega
        simp [dropS, aIsNumber, e0, l1, s0, e1, h40, hn, hz1]
      · have hd : numF (x :: r) ↔ Dg (x :: r) := ⟨fun z => z.2.2.2, fun z => ⟨by simp, by rw [List.length_cons]; omega, fun y => hz ⟨by simpa using y.1, by have := y.2; rw [List.length_cons] at this; omega⟩, z⟩⟩
        have hz1 : ¬ (x = 48 ∧ (1 : Int) < (r.length : Int) + 1) := fun y => hz ⟨y.1, by omega⟩
        have pre : exes Γ (dropS 3 aIsNumber.body) [.fz (.str w), .fz (.str (x :: r)), c] = exes Γ (dropS 5 aIsNumber.body) [.fz (.str w), .fz (.str (x :: r)), c] := by
          by_cases hx48 : x = 48
          · have h1 : ¬ ((1 : Int) < (r.length : Int) + 1) := fun y => hz1 ⟨hx48, y⟩
            subst hx48
            simp [dropS, aIsNumber, e0, l1, s0, e1, h40, h1]
          · simp [dropS, aIsNumber, e0, l1, s0, e1, h40, hx48]
        rw [pre]
        have e2 : exes Γ (dropS 5 aIsNumber.body) [.fz (.str w), .fz (.str (x :: r)), c] = (forL (Tg.one 2) (exes Γ (.cons (.ifs (.cmp .nin (.var 2) (.cst (.str [48, 49, 50, 51, 52, 53, 54, 55, 56, 57]))) (.cons (.ret (.cst (.bl false))) .nil) .nil) .nil)) ((x :: r).map fun c => .str [c]) [.fz (.str w), .fz (.str (x :: r)), c]).thn (exes Γ (.cons (.ret (.cst (.bl true))) .nil)) := by
          simp [dropS, aIsNumber]
        rw [e2, decide_eq_decide.mpr hd]
        refine dig_loop (T := fun o => (o.thn _).val = R.ok (Val.d (.bl (decide (Dg (x :: r)))))) (x :: r) c (fun hd c' => ?_) fun hn => ?_
        · simp [hd]
        · simp [hn]
theorem is_number_eq {defs : List (String × Df)} (hd : defs.lookup "is_number" = some aIsNumber) (k : Nat) (w : Tx) (h : Pl 1000 w) : mirN defs (k + 1) "is_number" [.str w] = .ok (.d (.bl (numB w))) := by
  refine (mirN_run hd _).trans ((run_0 rfl).trans ?_)
  have t1 : slcD (.str w) none (some 1) = .ok (.d (.str (w.take 1))) := slc_str_to (n := 1) (Nat.le_trans h.2 (by decide))
  have t2 : slcD (.str w) (some 1) none = .ok (.d (.str (w.drop 1))) := slc_str_from (n := 1) (Nat.le_trans h.2 (by decide))
  have e1 := eq_str ((h.take 1).mono (by decide)) (b := [45]) (show Pl 16777216 [45] from ⟨rfl, by decide⟩)
  by_cases hw : ∃ r, w = 45 :: r
  · obtain ⟨r, rfl⟩ := hw
    have hr : Pl 1000 r := h.drop 1
    have e2 := eq_str (hr.mono (by decide)) (b := [48]) (show Pl 16777216 [48] from ⟨rfl, by decide⟩)
    have e45 := eq_str (a := [45]) (b := [45]) (show Pl 16777216 [45] from ⟨rfl, by decide⟩) (show Pl 16777216 [45] from ⟨rfl, by decide⟩)
    show _ = R.ok (Val.d (.bl (decide (r ≠ [48] ∧ numF r))))
    by_cases hz : r = [48]
    · subst hz
      simp [aIsNumber, t1, t2, e45, e2]
    · have z := isnum_rest (Γ := mirN defs k) (45 :: r) r .no hr
      have e3 : decide (r ≠ [48] ∧ numF r) = decide (numF r) := decide_eq_decide.mpr ⟨fun y => y.2, fun y => ⟨hz, y⟩⟩
      rw [e3, ← z]
      simp [aIsNumber, t1, t2, e45, e2, hz, dropS]
  · have z := isnum_rest (Γ := mirN defs k) w w .no h
    have e3 : numB w = decide (numF w) := by
      unfold numB
      split
      · exact absurd ⟨_, rfl⟩ hw
      · rfl
    have e4 : w.take 1 ≠ [45] := fun y => hw (by
      cases w with
      | nil => cases y
      | cons a r =>
        rw [List.take_succ_cons, List.take_zero] at y
        cases y
        exact ⟨r, rfl⟩)
    rw [e3, ← z]
    simp [aIsNumber, t1, t2, e1, e4, dropS]
theorem numL_head : ∀ n : Nat, 0 < n → ∃ d r, TL.numL n = d :: r ∧ d ≠ 48 := by
  intro n
  induction n using Nat.strongRecOn with
  | _ n ih =>
    intro h
    by_cases h10 : n < 10
    · exact ⟨48 + n, [], TL.numL_lt h10, by omega⟩
    · obtain ⟨d, r, e, hd⟩ := ih (n / 10) (by omega) (by omega)
      exact ⟨d, r ++ [48 + n % 10], by rw [TL.numL_step (by omega), e]; rfl, hd⟩
theorem numL_dg (n : Nat) : Dg (TL.numL n) := fun c hc => by
  have := TL.numL_digits n c hc
  have h : c = 48 ∨ c = 49 ∨ c = 50 ∨ c = 51 ∨ c = 52 ∨ c = 53 ∨ c = 54 ∨ c = 55 ∨ c = 56 ∨ c = 57 := by omega
  simp only [List.mem_cons, List.mem_nil_iff, or_false]
  exact h
theorem numF_numL {n : Nat} (h : n < 10 ^ 40) : numF (TL.numL n) := by
  refine ⟨TL.numL_ne n, TL.numL_len (by decide) h, ?_, numL_dg n⟩
  rintro ⟨h1, h2⟩
  by_cases h0 : n = 0
  · subst h0
    rw [TL.numL_lt (by decide)] at h2
    exact absurd h2 (by decide)
  · obtain ⟨d, r, e, hd⟩ := numL_head n (by omega)
    rw [e] at h1
    exact hd (Option.some.inj h1)
theorem numB_plain {w : Tx} (h : ¬ ∃ r, w = 45 :: r) : numB w = decide (numF w) := by
  unfold numB
  split
  · exact absurd ⟨_, rfl⟩ h
  · rfl
theorem int_case (i : Int) : (∃ n : Nat, i = n) ∨ ∃ n : Nat, i = -((n + 1 : Nat) : Int) := by
  by_cases h0 : 0 ≤ i
  · exact .inl ⟨i.toNat, by omega⟩
  · exact .inr ⟨(-i).toNat - 1, by omega⟩
theorem numB_itx {i : Int} (h : i.natAbs < 10 ^ 40) : numB (itx i) = true := by
  rcases int_case i with ⟨n, rfl⟩ | ⟨n, rfl⟩
  · rw [itx_nat, numB_plain, decide_eq_true (numF_numL (by simpa using h))]
    rintro ⟨r, e⟩
    have := TL.numL_digits n 45 (by rw [e]; exact List.mem_cons_self ..)
    omega
  · rw [itx_neg]
    have hn : n + 1 < 10 ^ 40 := by rw [Int.natAbs_neg, Int.natAbs_natCast] at h; exact h
    refine decide_eq_true ⟨fun e => ?_, numF_numL hn⟩
    obtain ⟨d, r, e2, hd⟩ := numL_head (n + 1) (by omega)
    rw [e] at e2
    cases e2
    exact hd rfl
theorem itx_sign {i : Int} {c : Nat} (h : c ∈ itx i) : c = 45 ∨ (48 ≤ c ∧ c ≤ 57) := by
  rcases int_case i with ⟨n, rfl⟩ | ⟨n, rfl⟩
  · rw [itx_nat] at h
    exact .inr (TL.numL_digits n c h)
  · rw [itx_neg] at h
    rcases List.mem_cons.mp h with rfl | h
    · exact .inl rfl
    · exact .inr (TL.numL_digits _ c h)
theorem int_back {i : Int} (h : i.natAbs < 10 ^ 40) : intOf (itx i) = some i := by
  unfold intOf
  rcases int_case i with ⟨n, rfl⟩ | ⟨n, rfl⟩
  · rw [itx_nat]
    have hl := TL.numL_len (n := n) (k := 40) (by decide) (by simpa using h)
    have e := intText_digits (x := (⟨(TL.numL n).toArray⟩ : Str)) (TL.numL_digits n) (TL.numL_ne n) (by show (⟨(TL.numL n).toArray⟩ : Str).length ≤ 4300; rw [show (⟨(TL.numL n).toArray⟩ : Str).length = (TL.numL n).length from SX.S_len _]; omega)
    rw [e]
    show some ((NumText.digitsVal (TL.numL n) : Nat) : Int) = _
    rw [TL.numL_val]
  · rw [itx_neg]
    have hn : n + 1 < 10 ^ 40 := by rw [Int.natAbs_neg, Int.natAbs_natCast] at h; exact h
    have hl := TL.numL_len (n := n + 1) (k := 40) (by decide) hn
    have e := intText_neg (x := (⟨(45 :: TL.numL (n + 1)).toArray⟩ : Str)) rfl (TL.numL_digits (n + 1)) (TL.numL_ne _) (by rw [show (⟨(45 :: TL.numL (n + 1)).toArray⟩ : Str).length = (45 :: TL.numL (n + 1)).length from SX.S_len _, List.length_cons]; omega)
    rw [e, TL.numL_val]
theorem itx_ne (i : Int) : itx i ≠ [] := by
  rcases int_case i with ⟨n, rfl⟩ | ⟨n, rfl⟩
  · rw [itx_nat]; exact TL.numL_ne n
  · rw [itx_neg]; simp
theorem bi_int_itx {i : Int} (h : i.natAbs < 10 ^ 40) : biD .int [.str (itx i)] = .ok (.d (.int i)) := by
  have hl := (itx_pl (k := 40) (by decide) h).2
  show (if (itx i).length ≤ 640 then optR (intOf (itx i)) (fun n => R.ok (Val.d (D.int n))) else R.bad) = _
  rw [if_pos (by omega), int_back h]
  rfl
end Fv
end
section
set_option maxHeartbeats 1000000
namespace Fv
open PySem
theorem joinL_snoc (a : Tx) : ∀ (xs : List Tx) (x : Tx), TL.joinL a (xs ++ [x]) = if xs = [] then x else TL.joinL a xs ++ (a ++ x)
  | [], x => rfl
  | [y], x => by simp [TL.joinL]
  | y :: z :: r, x => by
    show y ++ (a ++ TL.joinL a ((z :: r) ++ [x])) = _
    rw [joinL_snoc a (z :: r) x]
    simp [TL.joinL]
theorem joinL_cons (a x : Tx) {xs : List Tx} (h : xs ≠ []) : TL.joinL a (x :: xs) = x ++ (a ++ TL.joinL a xs) := by
  cases xs with
  | nil => exact absurd rfl h
  | cons y r => rfl
theorem joinL_in {a : Tx} {c : Nat} : ∀ {ys : List Tx}, c ∈ TL.joinL a ys → c ∈ a ∨ ∃ y ∈ ys, c ∈ y
  | [], h => nomatch h
  | [y], h => .inr ⟨y, List.mem_singleton.mpr rfl, h⟩
  | y :: z :: r, h => by
    have h : c ∈ y ++ (a ++ TL.joinL a (z :: r)) := h
    rcases List.mem_append.mp h with h | h
    · exact .inr ⟨y, List.mem_cons_self .., h⟩
    · rcases List.mem_append.mp h with h | h
      · exact .inl h
      · rcases joinL_in h with h | ⟨w, hw, h⟩
        · exact .inl h
        · exact .inr ⟨w, List.mem_cons_of_mem _ hw, h⟩
theorem joinL_len {b : Nat} : ∀ {ys : List Tx} {s : Nat}, (∀ y ∈ ys, y.length ≤ b) → (TL.joinL [s] ys).length ≤ ys.length * (b + 1)
  | [], _, _ => Nat.zero_le _
  | [y], _, h => by
    have := h y (List.mem_singleton.mpr rfl)
    show y.length ≤ 1 * (b + 1)
    omega
  | y :: z :: r, s, h => by
    have h1 := h y (List.mem_cons_self ..)
    have h2 := joinL_len (ys := z :: r) (s := s) fun w hw => h w (List.mem_cons_of_mem _ hw)
    show (y ++ ([s] ++ TL.joinL [s] (z :: r))).length ≤ _
    rw [List.length_append, List.length_append, List.length_singleton]
    have e : (y :: z :: r).length * (b + 1) = (z :: r).length * (b + 1) + (b + 1) := by rw [List.length_cons, Nat.add_mul, Nat.one_mul]
    omega
theorem sum_le {b : Nat} : ∀ {ys : List Tx}, (∀ y ∈ ys, y.length ≤ b) → (ys.map List.length).sum ≤ ys.length * b
  | [], _ => Nat.zero_le _
  | y :: r, h => by
    have h1 := h y (List.mem_cons_self ..)
    have h2 := sum_le (ys := r) fun w hw => h w (List.mem_cons_of_mem _ hw)
    rw [List.map_cons, List.sum_cons, List.length_cons, Nat.add_mul, Nat.one_mul]
    omega
def strsD (ys : List Tx) : List D := ys.map .str
@[simp] theorem strsD_len (ys : List Tx) : (strsD ys).length = ys.length := List.length_map ..
theorem strsD_cons (y : Tx) (ys : List Tx) : strsD (y :: ys) = .str y :: strsD ys := rfl
theorem strsD_snoc (ys : List Tx) (y : Tx) : strsD ys ++ [.str y] = strsD (ys ++ [y]) := by unfold strsD; rw [List.map_append]; rfl
theorem strsD_drop (ys : List Tx) (n : Nat) : (strsD ys).drop n = strsD (ys.drop n) := by unfold strsD; rw [List.map_drop]
theorem strsD_take (ys : List Tx) (n : Nat) : (strsD ys).take n = strsD (ys.take n) := by unfold strsD; rw [List.map_take]
theorem strsD_at {c : List Tx} {i : Nat} (h : i < c.length) : (strsD c)[i]? = some (.str c[i]) := by unfold strsD; rw [List.getElem?_map, List.getElem?_eq_getElem h]; rfl
theorem strsOf_map : ∀ ys : List Tx, strsOf (strsD ys) = some ys
  | [] => rfl
  | y :: r => by
    show (strsOf (strsD r)).map (y :: ·) = _
    rw [strsOf_map r]; rfl
theorem m1_join {a : Tx} {ys : List Tx} {b : Nat} (h : ∀ y ∈ ys, y.length ≤ b) (ha : a.length = 1) (hl : ys.length * (b + 1) ≤ 16777216) : m1D .join a (.lst (strsD ys)) = .ok (.d (.str (TL.joinL a ys))) := by
  show optR (strsOf (strsD ys)) (fun ys => if (ys.map List.length).sum + ys.length * a.length ≤ LINE then R.ok (Val.d (.str (TL.joinL a ys))) else .bad) = _
  rw [strsOf_map]
  show (if (ys.map List.length).sum + ys.length * a.length ≤ LINE then R.ok (Val.d (.str (TL.joinL a ys))) else .bad) = _
  have := sum_le h
  rw [if_pos (by rw [ha, Nat.mul_one]; rw [Nat.mul_add, Nat.mul_one] at hl; show _ ≤ 16777216; omega)]
theorem m1_split {s : Nat} {ys : List Tx} (hs : s < 256) (hne : ys ≠ []) (hf : ∀ y ∈ ys, s ∉ y) (hl : (TL.joinL [s] ys).length + 2 ≤ 16777216) : m1D .split (TL.joinL [s] ys) (.str [s]) = .ok (.fr (strsD ys)) := by
  show (if _ ∧ _ ∧ _ then _ else _) = _
  rw [if_pos ⟨by simp, by simp [hs], hl⟩, TL.spl_join hne hf]
  rfl
def intsD (c : List Int) : List D := c.map .int
@[simp] theorem intsD_len (c : List Int) : (intsD c).length = c.length := List.length_map ..
theorem intsD_nil : intsD [] = [] := rfl
theorem intsD_cons (y : Int) (ys : List Int) : intsD (y :: ys) = .int y :: intsD ys := rfl
theorem intsD_snoc (ys : List Int) (y : Int) : intsD ys ++ [.int y] = intsD (ys ++ [y]) := by unfold intsD; rw [List.map_append]; rfl
theorem intsD_at {c : List Int} {i : Nat} (h : i < c.length) : (intsD c)[i]? = some (.int c[i]) := int_at h
theorem intsD_app (a b : List Int) : intsD a ++ intsD b = intsD (a ++ b) := by unfold intsD; rw [List.map_append]
theorem intsD_drop (ys : List Int) (n : Nat) : (intsD ys).drop n = intsD (ys.drop n) := by unfold intsD; rw [List.map_drop]
theorem intsD_take (ys : List Int) (n : Nat) : (intsD ys).take n = intsD (ys.take n) := by unfold intsD; rw [List.map_take]
theorem intsD_set (ys : List Int) (n : Nat) (y : Int) : (intsD ys).set n (.int y) = intsD (ys.set n y) := by unfold intsD; rw [List.map_set]
theorem intsD_inj {a b : List Int} : intsD a = intsD b ↔ a = b := ⟨fun h => by
  have := congrArg (List.map fun d => match d with | D.int i => i | _ => 0) h
  unfold intsD at this
  rw [List.map_map, List.map_map] at this
  have e : ∀ c : List Int, c.map ((fun d => match d with | D.int i => i | _ => 0) ∘ D.int) = c := fun c => by
    rw [show ((fun d => match d with | D.int i => i | _ => 0) ∘ D.int) = id from rfl, List.map_id]
  rwa [e, e] at this, fun h => by rw [h]⟩
theorem intsD_mem {c : List Int} {x : Int} : D.int x ∈ intsD c ↔ x ∈ c := by
  unfold intsD
  rw [List.mem_map]
  exact ⟨fun ⟨y, h, e⟩ => by cases e; exact h, fun h => ⟨x, h, rfl⟩⟩
theorem in_all (c : List Int) : (intsD c).all (D.cl 0) = true := by
  rw [List.all_eq_true]
  intro x hx
  obtain ⟨i, _, rfl⟩ := List.mem_map.mp hx
  rfl
@[simp] theorem in_ints {x : Int} {c : List Int} : cmpD .inn (.int x) (.lst (intsD c)) = .ok (decide (x ∈ c)) := by
  show (if ((D.int x).cl 0 && (intsD c).all (D.cl 0)) = true then R.ok (decide (D.int x ∈ intsD c)) else .bad) = _
  rw [in_all, show (D.int x).cl 0 = true from rfl]
  show R.ok (decide (D.int x ∈ intsD c)) = _
  congr 1
  exact decide_eq_decide.mpr intsD_mem
@[simp] theorem nin_ints {x : Int} {c : List Int} : cmpD .nin (.int x) (.lst (intsD c)) = .ok (!decide (x ∈ c)) := by
  have e : cmpD .nin (.int x) (.lst (intsD c)) = if ((D.int x).cl 0 && (intsD c).all (D.cl 0)) = true then R.ok (!decide (D.int x ∈ intsD c)) else .bad := rfl
  rw [e, in_all, show (D.int x).cl 0 = true from rfl]
  show R.ok (!decide (D.int x ∈ intsD c)) = _
  congr 2
  exact decide_eq_decide.mpr intsD_mem
def colsT (p : List (List Int)) : List D := p.map fun c => .tup (intsD c)
@[simp] theorem colsT_len (p : List (List Int)) : (colsT p).length = p.length := List.length_map ..
theorem colsT_nil : colsT [] = [] := rfl
theorem colsT_cons (c : List Int) (p : List (List Int)) : colsT (c :: p) = .tup (intsD c) :: colsT p := rfl
theorem colsT_snoc (ys : List (List Int)) (y : List Int) : colsT ys ++ [.tup (intsD y)] = colsT (ys ++ [y]) := by unfold colsT; rw [List.map_append]; rfl
theorem colsT_at {p : List (List Int)} {i : Nat} (h : i < p.length) : (colsT p)[i]? = some (.tup (intsD p[i])) := by unfold colsT; rw [List.getElem?_map, List.getElem?_eq_getElem h]; rfl
theorem colsT_drop (ys : List (List Int)) (n : Nat) : (colsT ys).drop n = colsT (ys.drop n) := by unfold colsT; rw [List.map_drop]
theorem colsT_take (ys : List (List Int)) (n : Nat) : (colsT ys).take n = colsT (ys.take n) := by unfold colsT; rw [List.map_take]
theorem colsT_set (ys : List (List Int)) (n : Nat) (y : List Int) : (colsT ys).set n (.tup (intsD y)) = colsT (ys.set n y) := by unfold colsT; rw [List.map_set]
theorem clb_colsT (p : List (List Int)) : clb (.lst (colsT p)) = true := by
  show (colsT p).all (D.cl 4) = true
  rw [List.all_eq_true]
  intro x hx
  obtain ⟨c, _, rfl⟩ := List.mem_map.mp hx
  show (intsD c).all (D.cl 3) = true
  rw [List.all_eq_true]
  intro y hy
  obtain ⟨i, _, rfl⟩ := List.mem_map.mp hy
  rfl
theorem eq_colsT (p : List (List Int)) : cmpD .eq (.lst (colsT p)) (.lst (colsT p)) = .ok true := by
  rw [eq_lst (clb_colsT p) (clb_colsT p), decide_eq_true rfl]
/-- a voice's note -/
def nt (c : List Int) (v : Nat) : Int := c.getD v 0
theorem nt_eq {c : List Int} {v : Nat} (h : v < c.length) : nt c v = c[v] := by unfold nt; rw [List.getD_eq_getElem?_getD, List.getElem?_eq_getElem h]; rfl
theorem sub_nt {c : List Int} {v : Nat} (h : v < c.length) : subD (.tup (intsD c)) (.int (v : Int)) = .ok (.int (nt c v)) := by rw [sub_tup (intsD_at h), nt_eq h]
theorem sub_ntl {c : List Int} {v : Nat} (h : v < c.length) : subD (.lst (intsD c)) (.int (v : Int)) = .ok (.int (nt c v)) := by rw [sub_lst (intsD_at h), nt_eq h]
/-- a column or none -/
def bD : Option (List Int) → D
  | none => .non
  | some c => .tup (intsD c)
@[simp] theorem bD_none : bD none = .non := via rfl
@[simp] theorem bD_some {c : List Int} : bD (some c) = .tup (intsD c) := via rfl
inductive Rul where
  | span (a b : Nat) (s : List Int) | clock (a b : Nat) (m : Int) (s : List Int) | move (v : Nat) (s : List Int) | alike (a b : Nat) (s : List Int)
  | back (v : Nat) (d : Int) | held (v : Nat) (m : Int) | times (v : Nat) (x lo hi : Int) | begin (v : Nat) (s : List Int) | close (v : Nat) (s : List Int)
  | every (m a : Int) (r : Rul)
def wSpan : Tx := [115, 112, 97, 110]
def wClock : Tx := [99, 108, 111, 99, 107]
def wMove : Tx := [109, 111, 118, 101]
def wAlike : Tx := [97, 108, 105, 107, 101]
def wBack : Tx := [98, 97, 99, 107]
def wHeld : Tx := [104, 101, 108, 100]
def wTimes : Tx := [116, 105, 109, 101, 115]
def wBegin : Tx := [98, 101, 103, 105, 110]
def wClose : Tx := [99, 108, 111, 115, 101]
def wEvery : Tx := [101, 118, 101, 114, 121]
def Rul.kind : Rul → Tx
  | .span .. => wSpan | .clock .. => wClock | .move .. => wMove | .alike .. => wAlike | .back .. => wBack | .held .. => wHeld | .times .. => wTimes | .begin .. => wBegin | .close .. => wClose | .every .. => wEvery
/-- the numbers behind the kind -/
def Rul.nums : Rul → List Int
  | .span a b s => ((a : Int) + 1) :: ((b : Int) + 1) :: s
  | .clock a b m s => ((a : Int) + 1) :: ((b : Int) + 1) :: m :: s
  | .move v s => ((v : Int) + 1) :: s
  | .alike a b s => ((a : Int) + 1) :: ((b : Int) + 1) :: s
  | .back v d => [(v : Int) + 1, d]
  | .held v m => [(v : Int) + 1, m]
  | .times v x lo hi => [(v : Int) + 1, x, lo, hi]
  | .begin v s => ((v : Int) + 1) :: s
  | .close v s => ((v : Int) + 1) :: s
  | .every m a _ => [m, a]
def Rul.words : Rul → List Tx
  | .every m a r => wEvery :: itx m :: itx a :: r.words
  | r => r.kind :: r.nums.map itx
def Rul.text (r : Rul) : Tx := TL.joinL [32] r.words
def Rul.cls : Rul → String
  | .span .. => "Span" | .clock .. => "Clock" | .move .. => "Move" | .alike .. => "Alike" | .back .. => "Back" | .held .. => "Held" | .times .. => "Times" | .begin .. => "Begin" | .close .. => "Close" | .every .. => "Every"
def Rul.flds : Rul → List String
  | .span .. => ["told", "one", "other", "some"] | .clock .. => ["told", "one", "other", "beat", "some"] | .move .. => ["told", "voice", "some"] | .alike .. => ["told", "one", "other", "some"]
  | .back .. => ["told", "voice", "far"] | .held .. => ["told", "voice", "most"] | .times .. => ["told", "voice", "note", "low", "high"] | .begin .. => ["told", "voice", "some"] | .close .. => ["told", "voice", "some"]
  | .every .. => ["told", "beat", "at", "rule"]
def Rul.vals : Rul → List D
  | .span a b s => [.int a, .int b, .lst (intsD s)]
  | .clock a b m s => [.int a, .int b, .int m, .lst (intsD s)]
  | .move v s => [.int v, .lst (intsD s)]
  | .alike a b s => [.int a, .int b, .lst (intsD s)]
  | .back v d => [.int v, .int d]
  | .held v m => [.int v, .int m]
  | .times v x lo hi => [.int v, .int x, .int lo, .int hi]
  | .begin v s => [.int v, .lst (intsD s)]
  | .close v s => [.int v, .lst (intsD s)]
  | .every m a r => [.int m, .int a, .ins r.cls r.flds (.str r.text :: r.vals)]
def Rul.d (r : Rul) : D := .ins r.cls r.flds (.str r.text :: r.vals)
def Rul.size : Rul → Int
  | .back .. => 3 | .held _ m => m | .times _ _ _ hi => hi + 1 | .every m _ _ => m | _ => 1
def Rul.after : Rul → Int → Option (List Int) → List Int → Option Int
  | .span a b s, m, _, c => if nt c b - nt c a ∈ s then some m else none
  | .clock a b k s, m, _, c => if (nt c b - nt c a) % k ∈ s then some m else none
  | .begin v s, m, none, c => if nt c v ∈ s then some m else none
  | .begin _ _, m, some _, _ => some m
  | .close _ _, m, _, _ => some m
  | .back _ _, _, none, _ => some 0
  | .back v d, m, some b, c =>
    if m = 1 ∧ 0 ≤ nt c v - nt b v ∨ m = 2 ∧ nt c v - nt b v ≤ 0 then none
    else if d < nt c v - nt b v then some 1 else if nt c v - nt b v < 0 - d then some 2 else some 0
  | .held _ _, _, none, _ => some 0
  | .held v k, m, some b, c => if nt c v = nt b v then (if m + 1 = k then none else some (m + 1)) else some 0
  | .times v x _ hi, m, _, c => if nt c v = x then (if m = hi then none else some (m + 1)) else some m
  | .every k a r, m, b, c => if m = a ∧ r.after 0 b c = none then none else some ((m + 1) % k)
  | .move _ _, m, none, _ => some m
  | .move v s, m, some b, c => if nt c v - nt b v ∈ s then some m else none
  | .alike _ _ _, m, none, _ => some m
  | .alike a b s, m, some p, c => if nt c a = nt p a then some m else if nt c b - nt c a = nt p b - nt p a ∧ nt c b - nt c a ∈ s then none else some m
def Rul.closes : Rul → Int → Option (List Int) → Bool
  | .close _ _, _, none => true
  | .close v s, _, some c => decide (nt c v ∈ s)
  | .back _ _, m, _ => decide (m = 0)
  | .times _ _ lo _, m, _ => decide (lo ≤ m)
  | _, _, _ => true
def SmI (i : Int) : Prop := i.natAbs < 10 ^ 40
structure OkS (s : List Int) : Prop where
  lo : 1 ≤ s.length
  hi : s.length ≤ 12
  sm : ∀ i ∈ s, SmI i
/-- a rule that may stand in a score of so many voices -/
def Rul.Ok (n : Nat) : Rul → Prop
  | .span a b s => a < n ∧ b < n ∧ OkS s
  | .clock a b m s => a < n ∧ b < n ∧ (1 ≤ m ∧ SmI m) ∧ OkS s
  | .move v s => v < n ∧ OkS s
  | .alike a b s => a < n ∧ b < n ∧ OkS s
  | .back v d => v < n ∧ 0 ≤ d ∧ SmI d
  | .held v m => v < n ∧ 1 ≤ m ∧ SmI m
  | .times v x lo hi => v < n ∧ SmI x ∧ (0 ≤ lo ∧ SmI lo) ∧ 0 ≤ hi ∧ SmI hi
  | .begin v s => v < n ∧ OkS s
  | .close v s => v < n ∧ OkS s
  | .every m a (.span c d s) => (1 ≤ m ∧ SmI m) ∧ (0 ≤ a ∧ a < m) ∧ c < n ∧ d < n ∧ OkS s
  | .every m a (.clock c d k s) => (1 ≤ m ∧ SmI m) ∧ (0 ≤ a ∧ a < m) ∧ c < n ∧ d < n ∧ (1 ≤ k ∧ SmI k) ∧ OkS s
  | .every .. => False
/-- where a rule is broken, going along from a place on -/
def Rul.brk (r : Rul) : Nat → Int → Option (List Int) → List (List Int) → Option Int
  | p, m, b, [] => if r.closes m b then none else some (p : Int)
  | p, m, b, c :: l => match r.after m b c with
    | none => some (p : Int)
    | some m' => r.brk (p + 1) m' (some c) l
def Rul.broken (r : Rul) (l : List (List Int)) : Option Int := r.brk 0 0 none l
def Rul.flat : Rul → Bool
  | .every .. => false
  | _ => true
theorem Rul.words_eq {r : Rul} (h : r.flat = true) : r.words = r.kind :: r.nums.map itx := by cases r <;> first | rfl | cases h
theorem Rul.kind_pl (r : Rul) : Pl 5 r.kind ∧ 32 ∉ r.kind := by
  cases r <;> exact ⟨⟨rfl, Nat.le_of_ble_eq_true rfl⟩, by simp [Rul.kind, wSpan, wClock, wMove, wAlike, wBack, wHeld, wTimes, wBegin, wClose, wEvery]⟩
theorem smi_nat {a n : Nat} (h : a < n) (hn : n ≤ 1000) : SmI ((a : Int) + 1) := by
  have : (1001 : Nat) ≤ 10 ^ 40 := by decide
  unfold SmI
  omega
theorem Rul.nums_ok {r : Rul} {n : Nat} (hn : n ≤ 1000) (h : r.Ok n) (hf : r.flat = true) : (∀ i ∈ r.nums, SmI i) ∧ r.nums.length ≤ 15 ∧ 1 < r.nums.length := by
  have hs : ∀ {s : List Int}, OkS s → s.length ≤ 12 ∧ 1 ≤ s.length ∧ ∀ i ∈ s, SmI i := fun h => ⟨h.hi, h.lo, h.sm⟩
  cases r with
  | every m a r => cases hf
  | span a b s =>
    obtain ⟨h1, h2, h3⟩ := h
    have h3 := hs h3
    exact ⟨fun i hi => by
      rcases List.mem_cons.mp hi with rfl | hi
      · exact smi_nat h1 hn
      rcases List.mem_cons.mp hi with rfl | hi
      · exact smi_nat h2 hn
      exact h3.2.2 i hi, by simp [Rul.nums]; omega, by simp [Rul.nums]⟩
  | alike a b s =>
    obtain ⟨h1, h2, h3⟩ := h
    have h3 := hs h3
    exact ⟨fun i hi => by
      rcases List.mem_cons.mp hi with rfl | hi
      · exact smi_nat h1 hn
      rcases List.mem_cons.mp hi with rfl | hi
      · exact smi_nat h2 hn
      exact h3.2.2 i hi, by simp [Rul.nums]; omega, by simp [Rul.nums]⟩
  | clock a b m s =>
    obtain ⟨h1, h2, h4, h3⟩ := h
    have h3 := hs h3
    exact ⟨fun i hi => by
      rcases List.mem_cons.mp hi with rfl | hi
      · exact smi_nat h1 hn
      rcases List.mem_cons.mp hi with rfl | hi
      · exact smi_nat h2 hn
      rcases List.mem_cons.mp hi with rfl | hi
      · exact h4.2
      exact h3.2.2 i hi, by simp [Rul.nums]; omega, by simp [Rul.nums]⟩
  | move v s =>
    obtain ⟨h1, h3⟩ := h
    have h3 := hs h3
    exact ⟨fun i hi => by
      rcases List.mem_cons.mp hi with rfl | hi
      · exact smi_nat h1 hn
      exact h3.2.2 i hi, by simp [Rul.nums]; omega, by simp [Rul.nums]; omega⟩
  | begin v s =>
    obtain ⟨h1, h3⟩ := h
    have h3 := hs h3
    exact ⟨fun i hi => by
      rcases List.mem_cons.mp hi with rfl | hi
      · exact smi_nat h1 hn
      exact h3.2.2 i hi, by simp [Rul.nums]; omega, by simp [Rul.nums]; omega⟩
  | close v s =>
    obtain ⟨h1, h3⟩ := h
    have h3 := hs h3
    exact ⟨fun i hi => by
      rcases List.mem_cons.mp hi with rfl | hi
      · exact smi_nat h1 hn
      exact h3.2.2 i hi, by simp [Rul.nums]; omega, by simp [Rul.nums]; omega⟩
  | back v d =>
    obtain ⟨h1, h2, h3⟩ := h
    refine ⟨?_, by simp [Rul.nums], by simp [Rul.nums]⟩
    simp only [Rul.nums, List.mem_cons, List.not_mem_nil, or_false]
    rintro i (rfl | rfl)
    · exact smi_nat h1 hn
    · exact h3
  | held v d =>
    obtain ⟨h1, h2, h3⟩ := h
    refine ⟨?_, by simp [Rul.nums], by simp [Rul.nums]⟩
    simp only [Rul.nums, List.mem_cons, List.not_mem_nil, or_false]
    rintro i (rfl | rfl)
    · exact smi_nat h1 hn
    · exact h3
  | times v x lo hi =>
    obtain ⟨h1, h2, h3, h4, h5⟩ := h
    refine ⟨?_, by simp [Rul.nums], by simp [Rul.nums]⟩
    simp only [Rul.nums, List.mem_cons, List.not_mem_nil, or_false]
    rintro i (rfl | rfl | rfl | rfl)
    · exact smi_nat h1 hn
    · exact h2
    · exact h3.2
    · exact h5
/-- a row's words -/
def wordOk (w : Tx) : Prop := Pl 41 w ∧ 32 ∉ w ∧ w.length ≤ 41
theorem itx_word {i : Int} (h : SmI i) : wordOk (itx i) := by
  have p := itx_pl (k := 40) (by decide) h
  exact ⟨p, fun hc => by have := itx_sign hc; omega, p.2⟩
theorem kind_word (r : Rul) : wordOk r.kind := ⟨r.kind_pl.1.mono (by decide), r.kind_pl.2, Nat.le_trans r.kind_pl.1.2 (by decide)⟩
theorem flat_words {r : Rul} {n : Nat} (hn : n ≤ 1000) (h : r.Ok n) (hf : r.flat = true) : (∀ w ∈ r.words, wordOk w) ∧ r.words.length ≤ 16 := by
  obtain ⟨h1, h2, _⟩ := Rul.nums_ok hn h hf
  rw [Rul.words_eq hf]
  refine ⟨fun w hw => ?_, by rw [List.length_cons, List.length_map]; omega⟩
  rcases List.mem_cons.mp hw with rfl | hw
  · exact kind_word r
  · obtain ⟨i, hi, rfl⟩ := List.mem_map.mp hw
    exact itx_word (h1 i hi)
theorem split_words {ws : List Tx} (h : ∀ w ∈ ws, wordOk w) (hl : ws.length ≤ 1000) (hne : ws ≠ []) : m1D .split (TL.joinL [32] ws) (.str [32]) = .ok (.fr (strsD ws)) ∧ (TL.joinL [32] ws).length ≤ 42000 := by
  have z := joinL_len (ys := ws) (s := 32) (b := 41) fun y hy => (h y hy).2.2
  have z2 : (TL.joinL [32] ws).length ≤ 42000 := by omega
  exact ⟨m1_split (by decide) hne (fun y hy => (h y hy).2.1) (by omega), z2⟩
theorem join_words {ws : List Tx} (h : ∀ w ∈ ws, wordOk w) (hl : ws.length ≤ 1000) : m1D .join [32] (.lst (strsD ws)) = .ok (.d (.str (TL.joinL [32] ws))) :=
  m1_join (fun y hy => (h y hy).2.2) rfl (by omega)
theorem slc_strs_from (ws : List Tx) (n : Nat) : slcD (.lst (strsD ws)) (some (n : Int)) none = .ok (.fr (strsD (ws.drop n))) := by rw [slc_lst_from, strsD_drop]
theorem slc_ints_from (ws : List Int) (n : Nat) : slcD (.lst (intsD ws)) (some (n : Int)) none = .ok (.fr (intsD (ws.drop n))) := by rw [slc_lst_from, intsD_drop]
theorem slc_cols_from (ws : List (List Int)) (n : Nat) : slcD (.lst (colsT ws)) (some (n : Int)) none = .ok (.fr (colsT (ws.drop n))) := by rw [slc_lst_from, colsT_drop]
theorem slc_cols_to (ws : List (List Int)) (n : Nat) : slcD (.lst (colsT ws)) none (some (n : Int)) = .ok (.fr (colsT (ws.take n))) := by rw [slc_lst_to, colsT_take]
theorem lookup_if {β : Type} (a k : String) (b : β) (l : List (String × β)) : List.lookup a ((k, b) :: l) = if a = k then some b else List.lookup a l := by
  rw [List.lookup_cons]
  by_cases h : a = k
  · subst h; rw [beq_self_eq_true, if_pos rfl]
  · have hb : (a == k) = false := by simpa using h
    rw [hb, if_neg h]
theorem d_span {a b : Nat} {s : List Int} : (Rul.span a b s).d = .ins "Span" ["told", "one", "other", "some"] [.str (Rul.span a b s).text, .int a, .int b, .lst (intsD s)] := rfl
theorem d_clock {a b : Nat} {m : Int} {s : List Int} : (Rul.clock a b m s).d = .ins "Clock" ["told", "one", "other", "beat", "some"] [.str (Rul.clock a b m s).text, .int a, .int b, .int m, .lst (intsD s)] := rfl
theorem d_move {v : Nat} {s : List Int} : (Rul.move v s).d = .ins "Move" ["told", "voice", "some"] [.str (Rul.move v s).text, .int v, .lst (intsD s)] := rfl
theorem d_alike {a b : Nat} {s : List Int} : (Rul.alike a b s).d = .ins "Alike" ["told", "one", "other", "some"] [.str (Rul.alike a b s).text, .int a, .int b, .lst (intsD s)] := rfl
theorem d_back {v : Nat} {y : Int} : (Rul.back v y).d = .ins "Back" ["told", "voice", "far"] [.str (Rul.back v y).text, .int v, .int y] := rfl
theorem d_held {v : Nat} {y : Int} : (Rul.held v y).d = .ins "Held" ["told", "voice", "most"] [.str (Rul.held v y).text, .int v, .int y] := rfl
theorem d_times {v : Nat} {x lo hi : Int} : (Rul.times v x lo hi).d = .ins "Times" ["told", "voice", "note", "low", "high"] [.str (Rul.times v x lo hi).text, .int v, .int x, .int lo, .int hi] := rfl
theorem d_begin {v : Nat} {s : List Int} : (Rul.begin v s).d = .ins "Begin" ["told", "voice", "some"] [.str (Rul.begin v s).text, .int v, .lst (intsD s)] := rfl
theorem d_close {v : Nat} {s : List Int} : (Rul.close v s).d = .ins "Close" ["told", "voice", "some"] [.str (Rul.close v s).text, .int v, .lst (intsD s)] := rfl
theorem d_every {m a : Int} {r : Rul} : (Rul.every m a r).d = .ins "Every" ["told", "beat", "at", "rule"] [.str (Rul.every m a r).text, .int m, .int a, r.d] := rfl
/-- a field's value -/
theorem fld_of {cs ns : List String} {c n : String} {xs : List D} {y : D} (h : c ∈ cs) (e : (ns.zip xs).lookup n = some y) : fldD cs n (.ins c ns xs) = .ok y := by
  show (if c ∈ cs then optR ((ns.zip xs).lookup n) .ok else .bad) = _
  rw [if_pos h, e]; rfl
/-- classes of rules -/
abbrev CL10 : List String := ["Span", "Clock", "Begin", "Close", "Back", "Held", "Times", "Every", "Move", "Alike"]
theorem cls_of (r : Rul) {m : String} (h : m ∈ ["start", "after", "closes", "size", "shown"]) : clsOf CL10 m r.d = .ok r.cls := by
  have hm : m ∉ r.flds := by
    simp only [List.mem_cons, List.not_mem_nil, or_false] at h
    rcases h with rfl | rfl | rfl | rfl | rfl <;> cases r <;> simp [Rul.flds]
  have hc : r.cls ∈ CL10 := by cases r <;> simp [Rul.cls]
  show (if r.cls ∈ CL10 ∧ m ∉ r.flds then R.ok r.cls else .bad) = _
  rw [if_pos ⟨hc, hm⟩]
theorem cls_of2 {r : Rul} {m : String} (h : m ∈ ["start", "after", "closes", "size", "shown"]) (hc : r.cls ∈ ["Span", "Clock"]) : clsOf ["Span", "Clock"] m r.d = .ok r.cls := by
  have hm : m ∉ r.flds := by
    simp only [List.mem_cons, List.not_mem_nil, or_false] at h
    rcases h with rfl | rfl | rfl | rfl | rfl <;> cases r <;> simp [Rul.flds]
  show (if r.cls ∈ ["Span", "Clock"] ∧ m ∉ r.flds then R.ok r.cls else .bad) = _
  rw [if_pos ⟨hc, hm⟩]
def aPick : Df := ⟨2, 3, [], (.cons (.for_ (.one 2) (.seq (.slc (.var 0) (.var 1) (.bin .add (.var 1) (.cst (.int 1))))) (.cons (.ret (.var 2)) .nil)) (.cons (.ret (.cst (.int 0))) .nil))⟩
def pickV (ns : List Int) (p : Nat) : Int := ns.getD p 0
theorem pick_bt {ns : List Int} (h : Sc ns) (p : Nat) : Bt 1048576 (pickV ns p) := by
  unfold pickV
  rw [List.getD_eq_getElem?_getD]
  cases e : ns[p]? with
  | none => exact Bt.zero
  | some z => exact h.2 z (List.mem_of_getElem? e)
theorem pick_eq {defs : List (String × Df)} (hd : defs.lookup "_law_pick" = some aPick) (k : Nat) (ns : List Int) (p : Nat) : mirN defs (k + 1) "_law_pick" [.scr ns, .int (p : Int)] = .ok (.d (.int (pickV ns p))) := by
  refine (mirN_run hd _).trans ((run_0 rfl).trans ?_)
  simp [aPick, slcD, cut_one, pickV, List.getD_eq_getElem?_getD]
  cases ns[p]? with
  | none => simp
  | some z => simp [forL_cons]
def aIs : Df := ⟨2, 2, [], (.cons (.ifs (.cmp .is (.var 1) (.cst .non)) (.cons (.ret (.cmp .is (.var 0) (.cst .non))) .nil) .nil) (.cons (.ret (.and (.isa (.var 0) "int") (.and (.nt (.isa (.var 0) "bool")) (.cmp .eq (.var 0) (.var 1))))) .nil))⟩
theorem is_eq {defs : List (String × Df)} (hd : defs.lookup "_law_is" = some aIs) (k : Nat) (a b : Option Int) : mirN defs (k + 1) "_law_is" [oD a, oD b] = .ok (.d (.bl (decide (a = b)))) := by
  refine (mirN_run hd _).trans ((run_0 rfl).trans ?_)
  cases a with
  | none => cases b <;> simp [aIs]
  | some x => cases b <;> simp [aIs]
theorem is_same {defs : List (String × Df)} (hd : defs.lookup "_law_is" = some aIs) (k : Nat) {a b : Option Int} (h : a = b) : mirN defs (k + 1) "_law_is" [oD a, oD b] = .ok (.d (.bl true)) := by rw [is_eq hd k, decide_eq_true h]
/-- a list of numbers made one by one -/
theorem comp_ints {Γ : Fns} {S S' : Nat → Sg} {e : Ex} {n : Nat} {tg : Tg} {T : Sg} (f : Nat → D) (g : Nat → Int) (h : ∀ i, i < n → ∃ S1, tg.set (f i) T = .ok S1 ∧ elt Γ e S1 = .ok (.int (g i))) : compL tg T (evT Γ (.cst (.bl true))) (elt Γ e) ((List.range n).map f) [] = .ok (intsD ((List.range n).map g)) := by
  rw [compL_map f (fun i => .int (g i)) (List.range n) [] fun i hi => by
    obtain ⟨S1, h1, h2⟩ := h i (List.mem_range.mp hi)
    exact ⟨S1, h1, by simp, h2⟩]
  unfold intsD
  rw [List.map_map]
  rfl
end Fv
end
section
set_option maxHeartbeats 1000000
namespace Fv
open PySem
def aStir : Df := ⟨2, 5, [], (.cons (.setT [2, 3] (.bi .divmod (.cons (.var 0) (.cons (.cst (.int 46337)) .nil)))) (.cons (.set 4 (.bin .mod (.bin .add (.bin .add (.bin .add (.bin .mul (.var 3) (.cst (.int 52361))) (.bin .mul (.var 2) (.cst (.int 30011)))) (.bin .mul (.bin .add (.bin .mul (.cst (.int 2)) (.var 1)) (.cst (.int 1))) (.cst (.int 7919)))) (.cst (.int 97))) (.cst (.int 1600000009)))) (.cons (.ret (.bin .mod (.bin .add (.bin .add (.bin .fdiv (.bin .mul (.var 4) (.var 4)) (.cst (.int 31))) (.bin .mul (.var 4) (.cst (.int 1013)))) (.bin .mul (.bin .mul (.var 1) (.var 1)) (.var 1))) (.cst (.int 1900000043)))) .nil)))⟩
def qBases : Ex := .bin .add (.bin .sub (.cst (.int 60)) (.bin .mul (.cst (.int 7)) (.var 3))) (.bin .mul (.var 2) (.bin .sub (.cst (.int 1)) (.var 3)))
def aBases : Df := ⟨2, 4, [], (.cons (.set 0 (.bin .mod (.var 0) (.bin .mul (.cst (.int 3)) (.bin .pow (.cst (.int 10)) (.cst (.int 30)))))) (.cons (.set 2 (.bin .mul (.bin .sub (.bin .mod (.var 0) (.cst (.int 3))) (.cst (.int 1))) (.bin .fdiv (.var 0) (.cst (.int 3))))) (.cons (.ret (.lc [("_law_v", 3)] (.one 3) (.rng (.var 1)) (.cst (.bl true)) qBases)) .nil)))⟩
def bDigits : Sms := (.cons (.ifs (.cmp .gt (.var 3) (.cst (.int 0))) (.cons (.app 4 (.bin .mod (.var 3) (.bin .pow (.cst (.int 10)) (.cst (.int 6))))) (.cons (.set 3 (.bin .fdiv (.var 3) (.bin .pow (.cst (.int 10)) (.cst (.int 6))))) .nil)) (.cons (.app 4 (.call "_law_stir" (.cons (.bin .add (.call "_law_stir" (.cons (.var 0) (.cons (.var 5) .nil))) (.var 0)) (.cons (.var 5) .nil)))) .nil)) .nil)
def aDigits : Df := ⟨2, 6, [], (.cons (.set 2 (.bin .mod (.var 0) (.cst (.int 2)))) (.cons (.set 0 (.bin .mod (.bin .fdiv (.var 0) (.cst (.int 2))) (.bin .mul (.bin .pow (.cst (.int 10)) (.cst (.int 60))) (.bin .pow (.cst (.int 10)) (.cst (.int 30)))))) (.cons (.set 3 (.bin .mul (.var 0) (.bin .sub (.cst (.int 1)) (.var 2)))) (.cons (.set 4 (.lst .nil)) (.cons (.for_ (.one 5) (.rng (.var 1)) bDigits) (.cons (.ret (.var 4)) .nil))))))⟩
def bColumn : Sms := (.cons (.set 7 (.bin .mod (.call "_law_stir" (.cons (.bin .add (.call "_law_stir" (.cons (.var 0) (.cons (.var 6) .nil))) (.var 0)) (.cons (.var 6) .nil))) (.var 3))) (.cons (.ifs (.cmp .gt (.var 4) (.cst (.int 0))) (.cons (.set 7 (.bin .mod (.var 4) (.var 3))) .nil) .nil) (.cons (.app 5 (.bin .add (.sub (.var 1) (.var 6)) (.bin .mul (.var 2) (.var 7)))) (.cons (.set 4 (.bin .fdiv (.var 4) (.var 3))) .nil))))
def aColumn : Df := ⟨4, 8, [], (.cons (.set 4 (.bin .mul (.bin .fdiv (.var 0) (.cst (.int 2))) (.bin .sub (.cst (.int 1)) (.bin .mod (.var 0) (.cst (.int 2)))))) (.cons (.set 5 (.lst .nil)) (.cons (.for_ (.one 6) (.rng (.bi .len (.cons (.var 1) .nil))) bColumn) (.cons (.ret (.bi .tuple (.cons (.var 5) .nil))) .nil))))⟩
variable {defs : List (String × Df)}
theorem stir_eq (hd : defs.lookup "_law_stir" = some aStir) (k : Nat) (n i : Int) (hn : Bt 400 n) (hi : 0 ≤ i ∧ i < 1000) : ∃ r : Int, mirN defs (k + 1) "_law_stir" [.int n, .int i] = .ok (.d (.int r)) ∧ 0 ≤ r ∧ r < 1900000043 := by
  have e : mirN defs (k + 1) "_law_stir" [.int n, .int i] = _ := (mirN_run hd _).trans (run_0 rfl)
  rw [e]
  have m1 := mul_bt (i := n / 46337) (j := 30011) 400 15 hn.div (by decide) (by decide)
  generalize n / 46337 = u at m1
  have l1 : 0 ≤ n % 46337 ∧ n % 46337 < 46337 := ⟨Int.emod_nonneg _ (by decide), Int.emod_lt_of_pos _ (by decide)⟩
  obtain ⟨l, hl⟩ : ∃ l, n % 46337 = l := ⟨_, rfl⟩
  rw [hl] at l1
  obtain ⟨d, hdv⟩ : ∃ d, n / 46337 = d := ⟨_, rfl⟩
  have m1 := mul_bt (i := n / 46337) (j := 30011) 400 15 hn.div (by decide) (by decide)
  rw [hdv] at m1
  obtain ⟨f, hf, hf1⟩ : ∃ f : Int, (l * 52361 + d * 30011 + (2 * i + 1) * 7919 + 97) % 1600000009 = f ∧ 0 ≤ f ∧ f < 1600000009 := ⟨_, rfl, Int.emod_nonneg _ (by decide), Int.emod_lt_of_pos _ (by decide)⟩
  have m2 := mul_sm (i := l) (j := 52361) (by omega) (by omega)
  have m3 := mul_sm (i := 2) (j := i) (by omega) (by omega)
  have m4 := mul_sm (i := 2 * i + 1) (j := 7919) (by omega) (by omega)
  have m5 := mul_sm (i := f) (j := f) (by omega) (by omega)
  have m6 := mul_sm (i := f) (j := 1013) (by omega) (by omega)
  have m7 := mul_sm (i := i) (j := i) (by omega) (by omega)
  have ii : 0 ≤ i * i ∧ i * i < 1000000 := ⟨Int.mul_nonneg hi.1 hi.1, by
    have h1 : i * i ≤ 999 * i := Int.mul_le_mul_of_nonneg_right (by omega) hi.1
    omega⟩
  obtain ⟨s, hs⟩ : ∃ s, i * i = s := ⟨_, rfl⟩
  rw [hs] at ii m7
  have m8 := mul_sm (i := s) (j := i) (by omega) (by omega)
  refine ⟨(f * f / 31 + f * 1013 + s * i) % 1900000043, ?_, Int.emod_nonneg _ (by decide), Int.emod_lt_of_pos _ (by decide)⟩
  simp [aStir, hl, hdv, m1, m2, m3, m4, hf, m5, m6, m7, m8]
/-- numbers of columns drawn -/
theorem bases_eq (hd : defs.lookup "_law_bases" = some aBases) (k : Nat) (c : Int) (v : Nat) (hv : v ≤ 4) : ∃ l : List Int, mirN defs (k + 1) "_law_bases" [.int c, .int (v : Int)] = .ok (.fr (intsD l)) ∧ l.length = v ∧ ∀ x ∈ l, -4000000000000000000000000000000 ≤ x ∧ x ≤ 4000000000000000000000000000000 := by
  have e : mirN defs (k + 1) "_law_bases" [.int c, .int (v : Int)] = _ := (mirN_run hd _).trans (run_0 rfl)
  rw [e]
  obtain ⟨q, hq, hq1⟩ : ∃ q : Int, c % 3000000000000000000000000000000 = q ∧ 0 ≤ q ∧ q < 3000000000000000000000000000000 := ⟨_, rfl, Int.emod_nonneg _ (by decide), Int.emod_lt_of_pos _ (by decide)⟩
  have m1 := mul_sm (i := q % 3 - 1) (j := q / 3) (by omega) (by omega)
  obtain ⟨f, hf, hf1⟩ : ∃ f : Int, (q % 3 - 1) * (q / 3) = f ∧ -1000000000000000000000000000000 ≤ f ∧ f ≤ 1000000000000000000000000000000 := by
    refine ⟨_, rfl, ?_⟩
    have h3 : q % 3 = 0 ∨ q % 3 = 1 ∨ q % 3 = 2 := by omega
    rcases h3 with h | h | h <;> rw [h] <;> omega
  rw [hf] at m1
  have rg : rngD 0 (v : Int) = _ := rng_n (by omega)
  have v6 : v ≤ 16777216 := by omega
  have bd : ∀ i : Nat, i < v → -4000000000000000000000000000000 ≤ 60 - 7 * (i : Int) + f * (1 - (i : Int)) ∧ 60 - 7 * (i : Int) + f * (1 - (i : Int)) ≤ 4000000000000000000000000000000 := fun i hi => by
    have h4 : i = 0 ∨ i = 1 ∨ i = 2 ∨ i = 3 := by omega
    rcases h4 with rfl | rfl | rfl | rfl <;> simp <;> omega
  have c1 : compL (Tg.one 3) [.fz (.int q), .fz (.int v), .fz (.int f), .no] (evT (mirN defs k) (.cst (.bl true))) (elt (mirN defs k) qBases) ((List.range v).map fun i => .int (i : Nat)) [] = .ok (intsD ((List.range v).map fun i : Nat => 60 - 7 * (i : Int) + f * (1 - (i : Int)))) :=
    comp_ints (S := fun _ => []) (S' := fun _ => []) _ _ fun i hi => ⟨_, rfl, by
      have a1 := mul_sm (i := 7) (j := (i : Int)) (by omega) (by omega)
      have a2 := mul_sm (i := f) (j := 1 - (i : Int)) (by omega) (by omega)
      simp only [List.set_cons_succ, List.set_cons_zero]
      generalize (i : Int) = z at a1 a2 ⊢
      simp [qBases, a1, a2]⟩
  refine ⟨(List.range v).map fun i : Nat => 60 - 7 * (i : Int) + f * (1 - (i : Int)), ?_, by simp, fun x hx => by
    obtain ⟨i, hi, rfl⟩ := List.mem_map.mp hx
    exact bd i (List.mem_range.mp hi)⟩
  generalize (List.range v).map (fun i : Nat => 60 - 7 * (i : Int) + f * (1 - (i : Int))) = L at c1
  simp [aBases, hq, m1, rg, v6, c1, wipeS]
/-- a list of small numbers not below 0 -/
structure Dig (l : List Int) (n : Nat) : Prop where
  len : l.length = n
  ok : ∀ x ∈ l, 0 ≤ x ∧ x < 1900000043
theorem Dig.snoc {l : List Int} {n : Nat} (h : Dig l n) {x : Int} (hx : 0 ≤ x ∧ x < 1900000043) : Dig (l ++ [x]) (n + 1) := ⟨by rw [List.length_append, h.len]; rfl, fun y hy => by
  rcases List.mem_append.mp hy with hy | hy
  · exact h.ok y hy
  · rw [List.mem_singleton.mp hy]; exact hx⟩
theorem digits_eq (hd : defs.lookup "_law_digits" = some aDigits) (hs : defs.lookup "_law_stir" = some aStir) (k : Nat) (c : Int) (n : Nat) (hc : Bt 1048576 c) (hn : n ≤ 100) : ∃ l : List Int, mirN defs (k + 2) "_law_digits" [.int c, .int (n : Int)] = .ok (.fr (intsD l)) ∧ Dig l n := by
  have e : mirN defs (k + 2) "_law_digits" [.int c, .int (n : Int)] = _ := (mirN_run hd _).trans (run_0 rfl)
  rw [e]
  have rg : rngD 0 (n : Int) = _ := rng_n (by omega)
  have m0 : binD .mul (.int 1000000000000000000000000000000000000000000000000000000000000) (.int 1000000000000000000000000000000) = .ok (.d (.int 1000000000000000000000000000000000000000000000000000000000000000000000000000000000000000000)) := mul_int (mulOk_bt (m := 200) (n := 100) (by decide +kernel) (by decide +kernel) (by decide))
  obtain ⟨q, hq, hq1⟩ : ∃ q : Int, c / 2 % 1000000000000000000000000000000000000000000000000000000000000000000000000000000000000000000 = q ∧ 0 ≤ q ∧ q < 1000000000000000000000000000000000000000000000000000000000000000000000000000000000000000000 := ⟨_, rfl, Int.emod_nonneg _ (by decide), Int.emod_lt_of_pos _ (by decide)⟩
  have qb : Bt 300 q := Bt.of hq1.1 (Int.lt_trans hq1.2 (by decide +kernel))
  have z2 : c % 2 = 0 ∨ c % 2 = 1 := by omega
  have hb : Bt 2 (1 - c % 2) := by rcases z2 with z | z <;> rw [z] <;> decide
  have m1 := mul_bt 300 2 qb hb (by decide)
  obtain ⟨w, hw⟩ : ∃ w, q * (1 - c % 2) = w := ⟨_, rfl⟩
  rw [hw] at m1
  simp [aDigits, m0, hq, m1, rg]
  refine for_rule (R := fun o => ∃ l, (o.thn _).val = R.ok (Val.fr (intsD l)) ∧ Dig l n) (fun i S => ∃ (x : Int) (l : List Int) (y : Sl), S = [.fz (.int q), .fz (.int n), .fz (.int (c % 2)), .fz (.int x), .own (intsD l), y] ∧ Dig l i) ⟨w, [], _, rfl, rfl, fun _ h => nomatch h⟩ ?_ ?_
  · rintro i x S hx ⟨r, l, y, rfl, hl⟩
    obtain ⟨hi, rfl⟩ := rng_get hx
    refine ⟨_, rfl, ?_⟩
    have ll : (intsD l).length < 16777216 := by rw [intsD_len, hl.len]; omega
    by_cases g : 0 < r
    · have sn := intsD_snoc l (r % 1000000)
      generalize intsD l = L at ll sn ⊢
      simp [bDigits, g, ll, sn]
      exact ⟨_, _, ⟨rfl, rfl⟩, hl.snoc ⟨Int.emod_nonneg _ (by decide), Int.lt_trans (Int.emod_lt_of_pos _ (by decide)) (by decide)⟩⟩
    · obtain ⟨s1, e1, b1⟩ := stir_eq hs k q i (qb.mono (by decide)) ⟨by omega, by omega⟩
      obtain ⟨s2, e2, b2⟩ := stir_eq hs k (s1 + q) i ((Bt.add (m := 31) (n := 300) (Bt.of b1.1 (Int.lt_trans b1.2 (by decide))) qb).mono (by decide)) ⟨by omega, by omega⟩
      have sn := intsD_snoc l s2
      generalize intsD l = L at ll sn ⊢
      simp [bDigits, g, ll, e1, e2, sn]
      exact ⟨_, _, ⟨rfl, rfl⟩, hl.snoc b2⟩
  · rintro S ⟨r, l, y, rfl, hl⟩
    rw [List.length_map, List.length_range] at hl
    exact ⟨l, by simp, hl⟩
/-- a column of so many notes, none too great -/
structure Col (c : List Int) (v : Nat) : Prop where
  len : c.length = v
  ok : ∀ x ∈ c, -5000000000000000000000000000000 ≤ x ∧ x ≤ 5000000000000000000000000000000
theorem Col.nt {c : List Int} {v i : Nat} (h : Col c v) (hi : i < v) : -5000000000000000000000000000000 ≤ nt c i ∧ nt c i ≤ 5000000000000000000000000000000 := by
  rw [nt_eq (by rw [h.len]; exact hi)]
  exact h.ok _ (List.getElem_mem _)
theorem column_eq {nm : String} (hd : defs.lookup nm = some aColumn) (hs : defs.lookup "_law_stir" = some aStir) (k : Nat) (z : Int) (bs : List Int) (st w : Int) (hz : 0 ≤ z ∧ z < 100000000000) (hb : ∀ x ∈ bs, -4000000000000000000000000000000 ≤ x ∧ x ≤ 4000000000000000000000000000000) (hl : bs.length ≤ 4) (hst : 0 ≤ st ∧ st ≤ 1000000000039) (hw : 0 < w ∧ w ≤ 100) :
    ∃ c : List Int, mirN defs (k + 2) nm [.int z, .lst (intsD bs), .int st, .int w] = .ok (.d (.tup (intsD c))) ∧ Col c bs.length := by
  have e : mirN defs (k + 2) nm [.int z, .lst (intsD bs), .int st, .int w] = _ := (mirN_run hd _).trans (run_0 rfl)
  rw [e]
  have rg : rngD 0 (bs.length : Int) = _ := rng_n (by omega)
  have z2 : z % 2 = 0 ∨ z % 2 = 1 := by omega
  have m1 := mul_sm (i := z / 2) (j := 1 - z % 2) (by omega) (by omega)
  obtain ⟨r0, hr0, hr1⟩ : ∃ r0, z / 2 * (1 - z % 2) = r0 ∧ 0 ≤ r0 := ⟨_, rfl, Int.mul_nonneg (by omega) (by omega)⟩
  rw [hr0] at m1
  simp [aColumn, m1, rg]
  refine for_rule (R := fun o => ∃ l, (o.thn _).val = R.ok (Val.d (.tup (intsD l))) ∧ Col l bs.length) (fun i S => ∃ (x : Int) (l : List Int) (y y2 : Sl), S = [.fz (.int z), .fz (.lst (intsD bs)), .fz (.int st), .fz (.int w), .fz (.int x), .own (intsD l), y, y2] ∧ Col l i) ⟨r0, [], _, _, rfl, rfl, fun _ h => nomatch h⟩ ?_ ?_
  · rintro i x S hx ⟨r, l, y, y2, rfl, hcl⟩
    obtain ⟨hi, rfl⟩ := rng_get hx
    refine ⟨_, rfl, ?_⟩
    have ll : (intsD l).length < 16777216 := by rw [intsD_len, hcl.len]; omega
    have zb : Bt 40 z := Bt.of hz.1 (Int.lt_trans hz.2 (by decide))
    obtain ⟨s1, e1, b1⟩ := stir_eq hs k z i (zb.mono (by decide)) ⟨by omega, by omega⟩
    obtain ⟨s2, e2, b2⟩ := stir_eq hs k (s1 + z) i (Bt.of (by omega) (Int.lt_trans (show s1 + z < 2 ^ 50 by omega) (by decide +kernel))) ⟨by omega, by omega⟩
    have sb := sub_lst (intsD_at (c := bs) (i := i) hi)
    have bb := hb bs[i] (List.getElem_mem hi)
    have w0 := hw.1
    have wl : w < 18446744073709551616 := by omega
    have key : ∀ t : Int, 0 ≤ t ∧ t < w → binD .mul (.int st) (.int t) = .ok (.d (.int (st * t))) ∧ Col (l ++ [bs[i] + st * t]) (i + 1) := fun t ht => by
      have h1 : 0 ≤ st * t := Int.mul_nonneg hst.1 ht.1
      have h2 : st * t ≤ 1000000000039 * 100 := Int.mul_le_mul hst.2 (by omega) ht.1 (by decide)
      exact ⟨mul_sm (by omega) (by omega), by rw [List.length_append, hcl.len]; rfl, fun y hy => by
        rcases List.mem_append.mp hy with hy | hy
        · exact hcl.ok y hy
        · rw [List.mem_singleton.mp hy]; omega⟩
    by_cases g : 0 < r
    · obtain ⟨mm, kk⟩ := key (r % w) ⟨Int.emod_nonneg _ (by omega), Int.emod_lt_of_pos _ w0⟩
      have sn := intsD_snoc l (bs[i] + st * (r % w))
      generalize intsD l = L at ll sn ⊢
      simp [bColumn, e1, e2, w0, wl, g, sb, mm, ll, sn]
      exact ⟨_, _, ⟨rfl, rfl⟩, kk⟩
    · obtain ⟨mm, kk⟩ := key (s2 % w) ⟨Int.emod_nonneg _ (by omega), Int.emod_lt_of_pos _ w0⟩
      have sn := intsD_snoc l (bs[i] + st * (s2 % w))
      generalize intsD l = L at ll sn ⊢
      simp [bColumn, e1, e2, w0, wl, g, sb, mm, ll, sn]
      exact ⟨_, _, ⟨rfl, rfl⟩, kk⟩
  · rintro S ⟨r, l, y, y2, rfl, hcl⟩
    rw [List.length_map, List.length_range] at hcl
    exact ⟨l, by simp, hcl⟩
end Fv
end
section
set_option maxHeartbeats 1000000
namespace Fv
open PySem
/-- the first place from i on, n places, at which P -/
def fst (P : Nat → Bool) : Nat → Nat → Option Int
  | _, 0 => none
  | i, n + 1 => if P i = true then some (i : Int) else fst P (i + 1) n
theorem fst_congr {P Q : Nat → Bool} : ∀ {n i : Nat}, (∀ j, i ≤ j → j < i + n → (∀ h, i ≤ h → h < j → P h = false) → P j = Q j) → fst P i n = fst Q i n
  | 0, _, _ => rfl
  | n + 1, i, h => by
    have h0 := h i (Nat.le_refl i) (by omega) (fun a b c => by omega)
    show (if P i = true then _ else _) = (if Q i = true then _ else _)
    rw [← h0]
    by_cases g : P i = true
    · rw [if_pos g, if_pos g]
    · rw [if_neg g, if_neg g]
      refine fst_congr fun j h1 h2 h3 => h j (by omega) (by omega) fun a h4 h5 => ?_
      by_cases ha : a = i
      · rw [ha]; simpa using g
      · exact h3 a (by omega) h5
theorem fst_none {P : Nat → Bool} : ∀ {n i : Nat}, fst P i n = none → ∀ j, i ≤ j → j < i + n → P j = false
  | 0, _, _, j, h1, h2 => by omega
  | n + 1, i, h, j, h1, h2 => by
    have h : (if P i = true then some (i : Int) else fst P (i + 1) n) = none := h
    by_cases g : P i = true
    · rw [if_pos g] at h; cases h
    · rw [if_neg g] at h
      by_cases hj : j = i
      · rw [hj]; simpa using g
      · exact fst_none h j (by omega) (by omega)
theorem fst_some {P : Nat → Bool} {p : Int} : ∀ {n i : Nat}, fst P i n = some p → ∃ q : Nat, p = (q : Int) ∧ i ≤ q ∧ q < i + n ∧ P q = true ∧ ∀ j, i ≤ j → j < q → P j = false
  | 0, _, h => by cases h
  | n + 1, i, h => by
    have h : (if P i = true then some (i : Int) else fst P (i + 1) n) = some p := h
    by_cases g : P i = true
    · rw [if_pos g] at h
      cases h
      exact ⟨i, rfl, Nat.le_refl i, by omega, g, fun j h1 h2 => by omega⟩
    · rw [if_neg g] at h
      obtain ⟨q, e, h1, h2, h3, h4⟩ := fst_some h
      refine ⟨q, e, by omega, by omega, h3, fun j h5 h6 => ?_⟩
      by_cases hj : j = i
      · rw [hj]; simpa using g
      · exact h4 j (by omega) h6
/-- a loop that looks for it -/
theorem first_loop {b k : Sg → Out} {v : Nat} (P : Nat → Bool) (S0 : Sl → Sg) (hset : ∀ x y, (S0 x).set v y = S0 y) (hk : ∀ x, (k (S0 x)).val = .ok (.d .non)) : ∀ (n i : Nat) (x : Sl), (∀ j, i ≤ j → j < i + n → b (S0 (.fz (.int (j : Nat)))) = if P j = true then .rt (.d (.int (j : Nat))) else .nx (S0 (.fz (.int (j : Nat))))) →
    ((forL (.one v) b ((List.range' i n).map fun j => .int (j : Nat)) (S0 x)).thn k).val = .ok (.d (oD (fst P i n)))
  | 0, i, x, _ => by
    show ((Out.nx (S0 x)).thn k).val = _
    rw [thn_nx, hk]
    rfl
  | n + 1, i, x, h => by
    rw [List.range'_succ, List.map_cons, forL_cons, set_one, Out.of_ok, hset, h i (Nat.le_refl i) (by omega)]
    show _ = R.ok (Val.d (oD (if P i = true then _ else _)))
    by_cases g : P i = true
    · rw [if_pos g, if_pos g]
      rfl
    · rw [if_neg g, if_neg g, turn_nx]
      exact first_loop P S0 hset hk n (i + 1) _ fun j h1 h2 => h j (by omega) (by omega)
theorem rng_r {n : Nat} (h : n < 1000000000) : rngD 0 (n : Int) = .ok ((List.range' 0 n).map fun i => .int (i : Nat)) := by
  rw [rng_n h, List.range_eq_range']
theorem rng2_r {a b : Nat} (ha : a < 1000000000) (hb : b < 1000000000) : rngD (a : Int) (b : Int) = .ok ((List.range' a (b - a)).map fun i => .int (i : Nat)) := by
  rw [rng2_n ha hb, List.range'_eq_map_range, List.map_map]
  rfl
/-- the column ahead of a place -/
def prv (L : List (List Int)) : Nat → Option (List Int)
  | 0 => none
  | i + 1 => L[i]?
/-- the column at a place -/
def colAt (L : List (List Int)) (i : Nat) : List Int := L.getD i []
theorem colAt_eq {L : List (List Int)} {i : Nat} (h : i < L.length) : colAt L i = L[i] := by
  unfold colAt
  rw [List.getD_eq_getElem?_getD, List.getElem?_eq_getElem h]; rfl
theorem prv_succ {L : List (List Int)} {i : Nat} (h : i < L.length) : prv L (i + 1) = some (colAt L i) := by
  show L[i]? = _
  rw [List.getElem?_eq_getElem h, colAt_eq h]
def brkEnd (r : Rul) (L : List (List Int)) (m : Int) : Option Int → Option Int
  | some p => some p
  | none => if r.closes m (prv L L.length) = true then none else some (L.length : Int)
theorem brk_gen (r : Rul) (L : List (List Int)) (M : Nat → Int) (P : Nat → Bool) : ∀ (k i : Nat), i + k = L.length → (∀ j, i ≤ j → j < L.length → r.after (M j) (prv L j) (colAt L j) = if P j = true then none else some (M (j + 1))) →
    r.brk i (M i) (prv L i) (L.drop i) = brkEnd r L (M L.length) (fst P i k)
  | 0, i, hi, _ => by
    have hi : i = L.length := by omega
    subst hi
    rw [List.drop_length]
    rfl
  | k + 1, i, hi, h => by
    have hl : i < L.length := by omega
    have h0 := h i (Nat.le_refl i) hl
    rw [List.drop_eq_getElem_cons hl, ← colAt_eq hl]
    show (match r.after (M i) (prv L i) (colAt L i) with | none => some (i : Int) | some m' => r.brk (i + 1) m' (some (colAt L i)) (L.drop (i + 1))) = brkEnd r L _ (if P i = true then _ else _)
    rw [h0]
    by_cases g : P i = true
    · rw [if_pos g, if_pos g]; rfl
    · rw [if_neg g, if_neg g]
      have ih := brk_gen r L M P k (i + 1) (by omega) fun j h1 h2 => h j (by omega) h2
      rw [prv_succ hl] at ih
      exact ih
theorem broken_gen {r : Rul} {L : List (List Int)} {M : Nat → Int} {P : Nat → Bool} (h0 : M 0 = 0) (h : ∀ j, j < L.length → r.after (M j) (prv L j) (colAt L j) = if P j = true then none else some (M (j + 1))) : r.broken L = brkEnd r L (M L.length) (fst P 0 L.length) := by
  have z := brk_gen r L M P L.length 0 (by omega) fun j _ hj => h j hj
  rw [h0] at z
  exact z
/-- rules without memory -/
theorem broken_flat {r : Rul} {L : List (List Int)} {P : Nat → Bool} (hc : ∀ b, r.closes 0 b = true) (h : ∀ j, j < L.length → r.after 0 (prv L j) (colAt L j) = if P j = true then none else some 0) : r.broken L = fst P 0 L.length := by
  rw [broken_gen (M := fun _ => 0) rfl h]
  cases fst P 0 L.length with
  | some p => rfl
  | none => show (if r.closes 0 _ = true then none else _) = none; rw [hc, if_pos rfl]
/-- lines of columns -/
structure Lin (l : List (List Int)) (v : Nat) : Prop where
  len : l.length ≤ 60
  ok : ∀ c ∈ l, Col c v
theorem Lin.nil {v : Nat} : Lin [] v := ⟨by decide, fun _ h => nomatch h⟩
theorem Lin.col {l : List (List Int)} {v i : Nat} (h : Lin l v) (hi : i < l.length) : Col (colAt l i) v := by rw [colAt_eq hi]; exact h.ok _ (List.getElem_mem hi)
theorem Lin.take {l : List (List Int)} {v : Nat} (h : Lin l v) (n : Nat) : Lin (l.take n) v := ⟨by rw [List.length_take]; have := h.len; omega, fun c hc => h.ok c (List.mem_of_mem_take hc)⟩
theorem Lin.drop {l : List (List Int)} {v : Nat} (h : Lin l v) (n : Nat) : Lin (l.drop n) v := ⟨by rw [List.length_drop]; have := h.len; omega, fun c hc => h.ok c (List.mem_of_mem_drop hc)⟩
theorem Lin.rev {l : List (List Int)} {v : Nat} (h : Lin l v) : Lin l.reverse v := ⟨by rw [List.length_reverse]; exact h.len, fun c hc => h.ok c (List.mem_reverse.mp hc)⟩
theorem Lin.lens {l : List (List Int)} {v : Nat} (h : Lin l v) : ∀ c ∈ l, c.length = v := fun c hc => (h.ok c hc).len
theorem sub_col {l : List (List Int)} {i : Nat} (h : i < l.length) : subD (.lst (colsT l)) (.int (i : Int)) = .ok (.tup (intsD (colAt l i))) := by rw [sub_lst (colsT_at h), colAt_eq h]
/-- a column's note -/
theorem sub_cn {c : List Int} {v i : Nat} (h : Col c v) (hi : i < v) : subD (.tup (intsD c)) (.int (i : Int)) = .ok (.int (nt c i)) := sub_nt (by rw [h.len]; exact hi)
/-- [:-1] -/
theorem cut_last {α : Type} (xs : List α) : cut xs none (some (-1)) = xs.take (xs.length - 1) := by
  unfold cut
  rw [HT.sIx_none, List.drop_zero, Nat.sub_zero]
  have e : HT.sIx xs.length xs.length (some (-1)) = xs.length - 1 := by
    show (if (-1 : Int) < 0 then ((-1 : Int) + (xs.length : Int)).toNat else min (-1 : Int).toNat xs.length) = _
    rw [if_pos (by decide)]
    omega
  rw [e]
theorem slc_cols_last (l : List (List Int)) : slcD (.lst (colsT l)) none (some (-1)) = .ok (.fr (colsT (l.take (l.length - 1)))) := by
  show R.ok (Val.fr (cut (colsT l) none (some (-1)))) = _
  rw [cut_last, colsT_len, colsT_take]
theorem ixOf_last {n : Nat} (h : 0 < n) : ixOf n (-1) = some (n - 1) := by
  unfold ixOf
  rw [if_neg (by decide), if_pos (by omega)]
  congr 1
  omega
theorem sub_last {l : List (List Int)} (h : 0 < l.length) : subD (.lst (colsT l)) (.int (-1)) = .ok (.tup (intsD (colAt l (l.length - 1)))) := by
  show optR ((ixOf (colsT l).length (-1)).bind ((colsT l)[·]?)) _ = _
  rw [colsT_len, ixOf_last h]
  show optR ((colsT l)[l.length - 1]?) _ = _
  rw [colsT_at (by omega), colAt_eq (by omega)]
  rfl
/-- 1, 5 or a great one -/
theorem step3 {j : Int} (h : 0 ≤ j ∧ j < 3) : ∃ st : Int, subD (.lst [.int 1, .int 5, .int 1000000000039]) (.int j) = .ok (.int st) ∧ 0 ≤ st ∧ st ≤ 1000000000039 := by
  have h3 : j = 0 ∨ j = 1 ∨ j = 2 := by omega
  rcases h3 with rfl | rfl | rfl
  · exact ⟨1, rfl, by decide, by decide⟩
  · exact ⟨5, rfl, by decide, by decide⟩
  · exact ⟨1000000000039, rfl, by decide, by decide⟩
theorem smi_of {x : Int} (h : -3000000000000000000000000000000000000000 ≤ x ∧ x ≤ 3000000000000000000000000000000000000000) : SmI x := by
  have : (3000000000000000000000000000000000000000 : Nat) < 10 ^ 40 := by decide
  unfold SmI
  omega
theorem smi_bt {x : Int} (h : SmI x) : Bt 1900 x := Nat.lt_of_lt_of_le h (by decide +kernel)
/-- the words of a row of a kind and numbers -/
def kindD (k : Tx) (is : List Int) : List D := .str k :: intsD is
theorem kindD_len (k : Tx) (is : List Int) : (kindD k is).length = is.length + 1 := by unfold kindD; rw [List.length_cons, intsD_len]
/-- .. as texts -/
theorem comp_words {Γ : Fns} {T : Sg} {v : Nat} {q : Ex} {k : Tx} {is : List Int} (h : ∀ i ∈ is, SmI i) (hq : ∀ d r, biD .str [d] = .ok r → elt Γ q (T.set v (.fz d)) = .ok r.D) : compL (.one v) T (evT Γ (.cst (.bl true))) (elt Γ q) (kindD k is) [] = .ok (strsD (k :: is.map itx)) := by
  have z := compL_map (tg := .one v) (S := T) (c := evT Γ (.cst (.bl true))) (e := elt Γ q) (fun o : Option Int => match o with | none => D.str k | some i => .int i) (fun o => match o with | none => D.str k | some i => .str (itx i)) (none :: is.map some) [] fun x hx => by
    cases x with
    | none => exact ⟨_, rfl, by simp, hq _ _ bi_str_str⟩
    | some i =>
      have hi : i ∈ is := by
        rcases List.mem_cons.mp hx with h | h
        · cases h
        · obtain ⟨j, hj, e⟩ := List.mem_map.mp h
          cases e
          exact hj
      exact ⟨_, rfl, by simp, hq _ _ (bi_str_int (smi_bt (h i hi)))⟩
  unfold kindD intsD strsD
  rw [List.map_cons, List.map_map] at z
  rw [List.map_cons, List.map_map]
  refine z.trans ?_
  rw [List.map_cons, List.map_map]
  rfl
theorem cells_len {ns : List Int} (a b : Nat) (hb : b ≤ a + 60) : (cut ns (some (a : Int)) (some (b : Int))).length ≤ 60 := by
  rw [cut_mid, List.length_take]
  omega
theorem comp_cols {Γ : Fns} {q : Ex} {T : Sg} {v n : Nat} (cells : List Int) (h : ∀ x ∈ cells, ∃ c, elt Γ q (T.set v (.fz (.int x))) = .ok (.tup (intsD c)) ∧ Col c n) : ∃ L, compL (.one v) T (evT Γ (.cst (.bl true))) (elt Γ q) (intsD cells) [] = .ok (colsT L) ∧ L.length = cells.length ∧ ∀ c ∈ L, Col c n := by
  classical
  obtain ⟨f, hf⟩ : ∃ f : Int → List Int, ∀ x ∈ cells, elt Γ q (T.set v (.fz (.int x))) = .ok (.tup (intsD (f x))) ∧ Col (f x) n :=
    ⟨fun x => if hx : x ∈ cells then (h x hx).choose else [], fun x hx => by
      show elt Γ q _ = .ok (.tup (intsD (if hx : x ∈ cells then (h x hx).choose else []))) ∧ Col (if hx : x ∈ cells then (h x hx).choose else []) n
      rw [dif_pos hx]
      exact (h x hx).choose_spec⟩
  refine ⟨cells.map f, ?_, List.length_map .., fun c hc => by
    obtain ⟨x, hx, rfl⟩ := List.mem_map.mp hc
    exact (hf x hx).2⟩
  have z := compL_map (tg := .one v) (S := T) (c := evT Γ (.cst (.bl true))) (e := elt Γ q) D.int (fun x => .tup (intsD (f x))) cells [] fun x hx => ⟨_, rfl, by simp, (hf x hx).1⟩
  unfold intsD colsT
  rw [List.map_map]
  exact z
theorem colsT_rev (l : List (List Int)) : (colsT l).reverse = colsT l.reverse := by unfold colsT; rw [List.map_reverse]
theorem kept_oD (b : Bool) (x : Option Int) : kept b (.d (oD x)) = .ok (.d (oD x)) := by cases x <;> simp
theorem ints_some {l : List Int} {i : Nat} {x : D} (e : (intsD l)[i]? = some x) : ∃ hi : i < l.length, x = .int l[i] := by
  have hi : i < l.length := by
    have := (List.getElem?_eq_some_iff.mp e).1
    simpa using this
  rw [intsD_at hi] at e
  exact ⟨hi, (Option.some.inj e).symm⟩
end Fv
end
section
set_option maxHeartbeats 1000000
namespace Fv
theorem every_words {m a : Int} {r : Rul} {n : Nat} (hn : n ≤ 1000) (h : (Rul.every m a r).Ok n) : r.Ok n ∧ r.flat = true ∧ (r.kind = wSpan ∨ r.kind = wClock) ∧ (1 ≤ m ∧ SmI m) ∧ (0 ≤ a ∧ a < m) := by
  cases r with
  | span x y s => exact ⟨⟨h.2.2.1, h.2.2.2.1, h.2.2.2.2⟩, rfl, .inl rfl, h.1, h.2.1⟩
  | clock x y z s => exact ⟨⟨h.2.2.1, h.2.2.2.1, h.2.2.2.2.1, h.2.2.2.2.2⟩, rfl, .inr rfl, h.1, h.2.1⟩
  | _ => exact h.elim
theorem all_words {n : Nat} (hn : n ≤ 1000) {r : Rul} (h : r.Ok n) : (∀ w ∈ r.words, wordOk w) ∧ r.words.length ≤ 19 := by
  by_cases hf : r.flat = true
  · obtain ⟨h1, h2⟩ := flat_words hn h hf
    exact ⟨h1, by omega⟩
  · cases r with
    | every m a r =>
      obtain ⟨g1, g2, _, g4, g5⟩ := every_words hn h
      obtain ⟨h1, h2⟩ := flat_words hn g1 g2
      have sa : SmI a := by have := g4.2; unfold SmI at *; omega
      refine ⟨fun w hw => ?_, by show (wEvery :: itx m :: itx a :: r.words).length ≤ 19; simp only [List.length_cons]; omega⟩
      rcases List.mem_cons.mp hw with rfl | hw
      · exact kind_word (.every m a r)
      rcases List.mem_cons.mp hw with rfl | hw
      · exact itx_word g4.2
      rcases List.mem_cons.mp hw with rfl | hw
      · exact itx_word sa
      exact h1 w hw
    | _ => exact absurd rfl hf
def cnt (L : List (List Int)) (v : Nat) (x : Int) : Nat := (L.filter fun c => decide (nt c v = x)).length
theorem cnt_le (L : List (List Int)) (v : Nat) (x : Int) : cnt L v x ≤ L.length := List.length_filter_le _ _
theorem cnt_snoc (L : List (List Int)) (c : List Int) (v : Nat) (x : Int) : cnt (L ++ [c]) v x = cnt L v x + if nt c v = x then 1 else 0 := by
  unfold cnt
  rw [List.filter_append, List.length_append]
  congr 1
  by_cases g : nt c v = x
  · simp [g]
  · simp [g]
theorem cnt_take (L : List (List Int)) (v : Nat) (x : Int) (j : Nat) (hj : j < L.length) : cnt (L.take (j + 1)) v x = cnt (L.take j) v x + if nt (colAt L j) v = x then 1 else 0 := by
  rw [List.take_succ_eq_append_getElem hj, cnt_snoc, colAt_eq hj]
def rl (L : List (List Int)) (v : Nat) : Nat → Nat
  | 0 => 0
  | j + 1 => if j ≠ 0 ∧ nt (colAt L j) v = nt (colAt L (j - 1)) v then rl L v j + 1 else 0
theorem rl_iff (L : List (List Int)) (v : Nat) : ∀ (j t : Nat), t ≤ rl L v (j + 1) ↔ t ≤ j ∧ ∀ k, 1 ≤ k → k ≤ t → nt (colAt L (j - k)) v = nt (colAt L j) v
  | j, 0 => ⟨fun _ => ⟨Nat.zero_le _, fun k h1 h2 => by omega⟩, fun _ => Nat.zero_le _⟩
  | 0, t + 1 => by
    have e : rl L v 1 = 0 := rfl
    rw [e]
    exact ⟨fun h => by omega, fun h => by omega⟩
  | j + 1, t + 1 => by
    have ih := rl_iff L v j t
    have e : rl L v (j + 1 + 1) = if nt (colAt L (j + 1)) v = nt (colAt L j) v then rl L v (j + 1) + 1 else 0 := by
      show (if j + 1 ≠ 0 ∧ nt (colAt L (j + 1)) v = nt (colAt L (j + 1 - 1)) v then _ else _) = _
      rw [Nat.add_sub_cancel]
      by_cases g : nt (colAt L (j + 1)) v = nt (colAt L j) v
      · rw [if_pos ⟨by omega, g⟩, if_pos g]
      · rw [if_neg (fun z => g z.2), if_neg g]
    rw [e]
    by_cases g : nt (colAt L (j + 1)) v = nt (colAt L j) v
    · rw [if_pos g]
      constructor
      · intro h
        obtain ⟨h1, h2⟩ := ih.mp (by omega)
        refine ⟨by omega, fun k k1 k2 => ?_⟩
        by_cases hk : k = 1
        · rw [hk, Nat.add_sub_cancel, g]
        · have := h2 (k - 1) (by omega) (by omega)
          rw [show j + 1 - k = j - (k - 1) from by omega, this, g]
      · rintro ⟨h1, h2⟩
        have : t ≤ rl L v (j + 1) := ih.mpr ⟨by omega, fun k k1 k2 => by
          have := h2 (k + 1) (by omega) (by omega)
          rw [show j + 1 - (k + 1) = j - k from by omega, g] at this
          exact this⟩
        omega
    · rw [if_neg g]
      constructor
      · intro h; omega
      · rintro ⟨h1, h2⟩
        have := h2 1 (by omega) (by omega)
        rw [Nat.add_sub_cancel] at this
        exact absurd this.symm g
theorem rl_step (L : List (List Int)) (v j : Nat) : rl L v (j + 1) ≤ rl L v j + 1 := by
  have e : rl L v (j + 1) = if j ≠ 0 ∧ nt (colAt L j) v = nt (colAt L (j - 1)) v then rl L v j + 1 else 0 := rfl
  rw [e]
  split
  · exact Nat.le_refl _
  · exact Nat.zero_le _
theorem rl_succ (L : List (List Int)) (v j : Nat) : rl L v (j + 1 + 1) = if nt (colAt L (j + 1)) v = nt (colAt L j) v then rl L v (j + 1) + 1 else 0 := by
  show (if j + 1 ≠ 0 ∧ nt (colAt L (j + 1)) v = nt (colAt L (j + 1 - 1)) v then _ else _) = _
  rw [Nat.add_sub_cancel]
  by_cases g : nt (colAt L (j + 1)) v = nt (colAt L j) v
  · rw [if_pos ⟨by omega, g⟩, if_pos g]
  · rw [if_neg (fun z => g z.2), if_neg g]
def mv (L : List (List Int)) (v j : Nat) : Int := nt (colAt L j) v - nt (colAt L (j - 1)) v
def sp (L : List (List Int)) (a b j : Nat) : Int := nt (colAt L j) b - nt (colAt L j) a
/-- where the row's words have a rule broken, by all columns up to there -/
def lb : Rul → List (List Int) → Nat → Bool
  | .span a b s, L, j => !decide (sp L a b j ∈ s)
  | .clock a b m s, L, j => !decide (sp L a b j % m ∈ s)
  | .begin v s, L, j => decide (j = 0) && !decide (nt (colAt L j) v ∈ s)
  | .close _ _, _, _ => false
  | .times v x _ hi, L, j => decide (nt (colAt L j) v = x) && decide (hi ≤ (cnt (L.take j) v (nt (colAt L j) v) : Int))
  | .held v m, L, j => if (j : Int) < m then false else ((L.drop (j - m.toNat)).take m.toNat).all fun c => decide (nt c v = nt (colAt L j) v)
  | .move v s, L, j => decide (0 < j) && !decide (mv L v j ∈ s)
  | .alike a b s, L, j => decide (0 < j) && (decide (mv L a j ≠ 0) && (decide (sp L a b j = sp L a b (j - 1)) && decide (sp L a b j ∈ s)))
  | .back v d, L, j => decide (0 < j) && (if j = 1 then false else (decide (d < mv L v (j - 1)) && decide (0 ≤ mv L v j)) || (decide (mv L v (j - 1) < 0 - d) && decide (mv L v j ≤ 0)))
  | .every m a r, L, j => decide ((j : Int) % m = a) && lb r L j
/-- .. at the close -/
def opn : Rul → List (List Int) → Bool
  | .times v x lo _, L => decide ((cnt L v x : Int) < lo)
  | .close v s, L => decide (L ≠ []) && !decide (nt (colAt L (L.length - 1)) v ∈ s)
  | .back v d, L => decide (1 < L.length) && decide (d < ((mv L v (L.length - 1)).natAbs : Int))
  | _, _ => false
def memB (L : List (List Int)) (v : Nat) (d : Int) : Nat → Int
  | 0 => 0
  | j + 1 => if j = 0 then 0 else if d < mv L v j then 1 else if mv L v j < 0 - d then 2 else 0
def Mem : Rul → List (List Int) → Nat → Int
  | .back v d, L, j => memB L v d j
  | .held v _, L, j => (rl L v j : Int)
  | .times v x _ _, L, j => (cnt (L.take j) v x : Int)
  | .every m _ _, _, j => (j : Int) % m
  | _, _, _ => 0
theorem Mem_zero (r : Rul) (L : List (List Int)) : Mem r L 0 = 0 := by
  cases r <;> first | rfl | simp [Mem, rl, cnt]
theorem all_cut {p : List Int → Bool} (L : List (List Int)) (a t : Nat) (h : a + t ≤ L.length) : ((L.drop a).take t).all p = true ↔ ∀ i, i < t → p (colAt L (a + i)) = true := by
  rw [List.all_eq_true]
  constructor
  · intro hx i hi
    refine hx _ ?_
    rw [colAt_eq (by omega)]
    rw [List.mem_iff_getElem]
    refine ⟨i, by rw [List.length_take, List.length_drop]; omega, ?_⟩
    rw [List.getElem_take, List.getElem_drop]
  · intro hx c hc
    obtain ⟨i, hi, rfl⟩ := List.mem_iff_getElem.mp hc
    rw [List.length_take, List.length_drop] at hi
    rw [List.getElem_take, List.getElem_drop]
    have := hx i (by omega)
    rw [colAt_eq (by omega)] at this
    exact this
theorem held_iff (L : List (List Int)) (v : Nat) (m : Int) (hm : 1 ≤ m) (j : Nat) (hj : j < L.length) : lb (.held v m) L j = decide (m ≤ (rl L v (j + 1) : Int)) := by
  have h := rl_iff L v j m.toNat
  have e : (m ≤ (rl L v (j + 1) : Int)) ↔ m.toNat ≤ rl L v (j + 1) := by omega
  show (if (j : Int) < m then false else _) = _
  by_cases g : (j : Int) < m
  · rw [if_pos g, decide_eq_false]
    rw [e, h]
    intro z
    omega
  · rw [if_neg g, Bool.eq_iff_iff, decide_eq_true_eq, e, h, all_cut L (j - m.toNat) m.toNat (by omega)]
    constructor
    · intro hx
      refine ⟨by omega, fun k k1 k2 => ?_⟩
      have := of_decide_eq_true (hx (m.toNat - k) (by omega))
      rw [show j - m.toNat + (m.toNat - k) = j - k from by omega] at this
      exact this
    · rintro ⟨_, hx⟩ i hi
      have := hx (m.toNat - i) (by omega) (by omega)
      rw [show j - (m.toNat - i) = j - m.toNat + i from by omega] at this
      exact decide_eq_true this
theorem rl_lt (L : List (List Int)) (v : Nat) (m : Int) (hm : 1 ≤ m) : ∀ j, j ≤ L.length → (∀ i, i < j → lb (.held v m) L i = false) → (rl L v j : Int) < m
  | 0, _, _ => by show ((0 : Nat) : Int) < m; omega
  | j + 1, hj, h => by
    have h3 := h j (by omega)
    rw [held_iff L v m hm j (by omega)] at h3
    have := of_decide_eq_false h3
    omega
theorem cnt_hi (L : List (List Int)) (v : Nat) (x lo hi : Int) (h0 : 0 ≤ hi) : ∀ j, j ≤ L.length → (∀ i, i < j → lb (.times v x lo hi) L i = false) → (cnt (L.take j) v x : Int) ≤ hi
  | 0, _, _ => h0
  | j + 1, hj, h => by
    have h1 := cnt_hi L v x lo hi h0 j (by omega) fun i hi => h i (by omega)
    have h2 : (decide (nt (colAt L j) v = x) && decide (hi ≤ (cnt (L.take j) v (nt (colAt L j) v) : Int))) = false := h j (by omega)
    rw [cnt_take L v x j (by omega)]
    by_cases g : nt (colAt L j) v = x
    · rw [if_pos g]
      rw [decide_eq_true g, Bool.true_and, g] at h2
      have := of_decide_eq_false h2
      omega
    · rw [if_neg g]
      exact h1
theorem flat_zero {r : Rul} {n : Nat} (h : r.kind = wSpan ∨ r.kind = wClock) (L : List (List Int)) (j : Nat) : r.after 0 (prv L j) (colAt L j) = if lb r L j = true then none else some 0 := by
  cases r with
  | span a b s =>
    show (if nt (colAt L j) b - nt (colAt L j) a ∈ s then some 0 else none) = if (!decide (nt (colAt L j) b - nt (colAt L j) a ∈ s)) = true then none else some 0
    by_cases g : nt (colAt L j) b - nt (colAt L j) a ∈ s <;> simp [g]
  | clock a b m s =>
    show (if (nt (colAt L j) b - nt (colAt L j) a) % m ∈ s then some 0 else none) = if (!decide ((nt (colAt L j) b - nt (colAt L j) a) % m ∈ s)) = true then none else some 0
    by_cases g : (nt (colAt L j) b - nt (colAt L j) a) % m ∈ s <;> simp [g]
  | _ => rcases h with h | h <;> exact absurd h (by simp [Rul.kind, wSpan, wClock, wMove, wAlike, wBack, wHeld, wTimes, wBegin, wClose, wEvery])
theorem stepA {r : Rul} {n : Nat} (hn : n ≤ 1000) (hok : r.Ok n) (L : List (List Int)) (j : Nat) (hj : j < L.length) (hno : ∀ i, i < j → lb r L i = false) : r.after (Mem r L j) (prv L j) (colAt L j) = if lb r L j = true then none else some (Mem r L (j + 1)) := by
  cases r with
  | span a b s => exact flat_zero (n := n) (.inl rfl) L j
  | clock a b m s => exact flat_zero (n := n) (.inr rfl) L j
  | every m a r =>
    obtain ⟨g1, g2, g3, g4, g5⟩ := every_words hn hok
    have e : (Rul.every m a r).after ((j : Int) % m) (prv L j) (colAt L j) = if (j : Int) % m = a ∧ r.after 0 (prv L j) (colAt L j) = none then none else some (((j : Int) % m + 1) % m) := rfl
    have em : ((j : Int) % m + 1) % m = ((j + 1 : Nat) : Int) % m := by
      rw [Int.emod_add_emod]
      rfl
    show (Rul.every m a r).after ((j : Int) % m) (prv L j) (colAt L j) = if (decide ((j : Int) % m = a) && lb r L j) = true then none else some (((j + 1 : Nat) : Int) % m)
    rw [e, em, flat_zero (n := n) g3 L j]
    by_cases g : (j : Int) % m = a
    · cases lb r L j <;> simp [g]
    · simp [g]
  | begin v s =>
    cases j with
    | zero =>
      show (if nt (colAt L 0) v ∈ s then some 0 else none) = if (decide ((0 : Nat) = 0) && !decide (nt (colAt L 0) v ∈ s)) = true then none else some 0
      by_cases g : nt (colAt L 0) v ∈ s <;> simp [g]
    | succ j =>
      rw [prv_succ (by omega)]
      rfl
  | close v s => cases hp : prv L j <;> rfl
  | move v s =>
    cases j with
    | zero => rfl
    | succ j =>
      rw [prv_succ (by omega)]
      show (if nt (colAt L (j + 1)) v - nt (colAt L j) v ∈ s then some 0 else none) = if (decide (0 < j + 1) && !decide (nt (colAt L (j + 1)) v - nt (colAt L j) v ∈ s)) = true then none else some 0
      by_cases g : nt (colAt L (j + 1)) v - nt (colAt L j) v ∈ s <;> simp [g]
  | alike a b s =>
    cases j with
    | zero => rfl
    | succ j =>
      rw [prv_succ (by omega)]
      show (if nt (colAt L (j + 1)) a = nt (colAt L j) a then some 0 else if sp L a b (j + 1) = sp L a b j ∧ sp L a b (j + 1) ∈ s then none else some 0) = if (decide (0 < j + 1) && (decide (nt (colAt L (j + 1)) a - nt (colAt L j) a ≠ 0) && (decide (sp L a b (j + 1) = sp L a b j) && decide (sp L a b (j + 1) ∈ s)))) = true then none else some 0
      have hz : (nt (colAt L (j + 1)) a - nt (colAt L j) a ≠ 0) ↔ ¬ nt (colAt L (j + 1)) a = nt (colAt L j) a := by omega
      have hd : decide (nt (colAt L (j + 1)) a - nt (colAt L j) a ≠ 0) = decide (¬ nt (colAt L (j + 1)) a = nt (colAt L j) a) := decide_eq_decide.mpr hz
      rw [hd]
      generalize sp L a b (j + 1) = s1
      generalize sp L a b j = s0
      by_cases g : nt (colAt L (j + 1)) a = nt (colAt L j) a
      · simp [g]
      · by_cases g2 : s1 = s0
        · by_cases g3 : s1 ∈ s
          · have g4 := g3
            rw [g2] at g4
            simp [g, g2, g4]
          · have g4 := g3
            rw [g2] at g4
            simp [g, g2, g4]
        · simp [g, g2]
  | times v x lo hi =>
    obtain ⟨_, _, _, h0, _⟩ := hok
    have hc := cnt_hi L v x lo hi h0 j (by omega) hno
    show (if nt (colAt L j) v = x then (if (cnt (L.take j) v x : Int) = hi then none else some ((cnt (L.take j) v x : Int) + 1)) else some (cnt (L.take j) v x : Int)) = if (decide (nt (colAt L j) v = x) && decide (hi ≤ (cnt (L.take j) v (nt (colAt L j) v) : Int))) = true then none else some (cnt (L.take (j + 1)) v x : Int)
    rw [cnt_take L v x j hj]
    by_cases g : nt (colAt L j) v = x
    · rw [g]
      by_cases g2 : (cnt (L.take j) v x : Int) = hi
      · simp [g2]
      · have g3 : ¬ hi ≤ (cnt (L.take j) v x : Int) := by omega
        simp [g2, g3]
    · simp [g]
  | held v m =>
    obtain ⟨_, hm, _⟩ := hok
    have hl := rl_lt L v m hm j (by omega) hno
    have hs := rl_step L v j
    rw [held_iff L v m hm j hj]
    cases j with
    | zero =>
      have e : rl L v (0 + 1) = 0 := rfl
      rw [e]
      show some 0 = if decide (m ≤ ((0 : Nat) : Int)) = true then none else some ((rl L v (0 + 1) : Nat) : Int)
      rw [e, if_neg (by simp; omega)]
      rfl
    | succ j =>
      rw [prv_succ (by omega)]
      show (if nt (colAt L (j + 1)) v = nt (colAt L j) v then (if (rl L v (j + 1) : Int) + 1 = m then none else some ((rl L v (j + 1) : Int) + 1)) else some 0) = if decide (m ≤ (rl L v (j + 1 + 1) : Int)) = true then none else some ((rl L v (j + 1 + 1) : Nat) : Int)
      rw [rl_succ]
      by_cases g : nt (colAt L (j + 1)) v = nt (colAt L j) v
      · rw [if_pos g, if_pos g, Int.natCast_add]
        by_cases g2 : (rl L v (j + 1) : Int) + 1 = m
        · have g3 : m ≤ (rl L v (j + 1) : Int) + 1 := by omega
          simp [g2]
        · have g3 : ¬ m ≤ (rl L v (j + 1) : Int) + 1 := by omega
          simp [g2, g3]
      · rw [if_neg g, if_neg g]
        have : ¬ m ≤ 0 := by omega
        simp [this]
  | back v d =>
    obtain ⟨_, hd, _⟩ := hok
    have hm1 : ∀ i, memB L v d (i + 1) = if i = 0 then 0 else if d < mv L v i then 1 else if mv L v i < 0 - d then 2 else 0 := fun i => rfl
    cases j with
    | zero => rfl
    | succ j =>
      rw [prv_succ (by omega)]
      show (if memB L v d (j + 1) = 1 ∧ 0 ≤ mv L v (j + 1) ∨ memB L v d (j + 1) = 2 ∧ mv L v (j + 1) ≤ 0 then none else if d < mv L v (j + 1) then some 1 else if mv L v (j + 1) < 0 - d then some 2 else some 0) = if (decide (0 < j + 1) && (if j + 1 = 1 then false else (decide (d < mv L v j) && decide (0 ≤ mv L v (j + 1))) || (decide (mv L v j < 0 - d) && decide (mv L v (j + 1) ≤ 0)))) = true then none else some (memB L v d (j + 1 + 1))
      rw [hm1 j, hm1 (j + 1), if_neg (show ¬ j + 1 = 0 by omega)]
      generalize mv L v (j + 1) = y
      have fin : (if d < y then some (1 : Int) else if y < 0 - d then some 2 else some 0) = some (if d < y then 1 else if y < 0 - d then 2 else 0) := by
        split
        · rfl
        · split <;> rfl
      rw [fin]
      generalize (if d < y then (1 : Int) else if y < 0 - d then 2 else 0) = z
      by_cases h0 : j = 0
      · simp [h0]
      · have h1 : ¬ j + 1 = 1 := by omega
        rw [if_neg h0, if_neg h1, decide_eq_true (show 0 < j + 1 by omega), Bool.true_and]
        generalize mv L v j = x
        by_cases g1 : d < x
        · have g2 : ¬ x < 0 - d := by omega
          by_cases g3 : 0 ≤ y
          · simp [g1, g3]
          · have g4 : ¬ x < -d := by omega
            simp [g1, g3, g4]
        · by_cases g2 : x < 0 - d
          · have g4 : x < -d := by omega
            by_cases g3 : y ≤ 0
            · simp [g1, g3, g4]
            · simp [g1, g3, g4]
          · have g4 : ¬ x < -d := by omega
            simp [g1, g4]
theorem stepB {r : Rul} {n : Nat} (hn : n ≤ 1000) (hok : r.Ok n) (L : List (List Int)) (j : Nat) (hj : j ≤ L.length) (hno : ∀ i, i < j → lb r L i = false) : 0 ≤ Mem r L j ∧ Mem r L j < r.size := by
  cases r with
  | every m a r =>
    obtain ⟨g1, g2, g3, g4, g5⟩ := every_words hn hok
    exact ⟨Int.emod_nonneg _ (by omega), Int.emod_lt_of_pos _ (by omega)⟩
  | held v m =>
    have := rl_lt L v m hok.2.1 j hj hno
    exact ⟨by show (0 : Int) ≤ (rl L v j : Int); omega, this⟩
  | times v x lo hi =>
    obtain ⟨_, _, _, h0, _⟩ := hok
    have := cnt_hi L v x lo hi h0 j hj hno
    exact ⟨by show (0 : Int) ≤ (cnt (L.take j) v x : Int); omega, by show (cnt (L.take j) v x : Int) < hi + 1; omega⟩
  | back v d =>
    cases j with
    | zero => exact ⟨Int.le_refl 0, show (0 : Int) < 3 by decide⟩
    | succ j =>
      have e : Mem (.back v d) L (j + 1) = if j = 0 then 0 else if d < mv L v j then 1 else if mv L v j < 0 - d then 2 else 0 := rfl
      have e2 : (Rul.back v d).size = 3 := rfl
      rw [e, e2]
      split
      · exact ⟨by decide, by decide⟩
      · split
        · exact ⟨by decide, by decide⟩
        · split <;> exact ⟨by decide, by decide⟩
  | _ => exact ⟨Int.le_refl 0, show (0 : Int) < 1 by decide⟩
theorem col_take {L : List (List Int)} {i j : Nat} (h : i < j) (hj : j ≤ L.length) : colAt (L.take j) i = colAt L i := by
  rw [colAt_eq (by rw [List.length_take]; omega), colAt_eq (by omega), List.getElem_take]
theorem stepC {r : Rul} {n : Nat} (hn : n ≤ 1000) (hok : r.Ok n) (L : List (List Int)) (j : Nat) (hj : j ≤ L.length) : r.closes (Mem r L j) (prv L j) = !opn r (L.take j) := by
  have hl : (L.take j).length = j := by rw [List.length_take]; omega
  cases r with
  | times v x lo hi =>
    show decide (lo ≤ (cnt (L.take j) v x : Int)) = !decide ((cnt (L.take j) v x : Int) < lo)
    rw [← decide_not]
    exact decide_eq_decide.mpr (by omega)
  | close v s =>
    cases j with
    | zero => rfl
    | succ j =>
      rw [prv_succ (by omega)]
      show decide (nt (colAt L j) v ∈ s) = !(decide (L.take (j + 1) ≠ []) && !decide (nt (colAt (L.take (j + 1)) ((L.take (j + 1)).length - 1)) v ∈ s))
      have hne : L.take (j + 1) ≠ [] := fun z => by rw [z] at hl; cases hl
      rw [hl, Nat.add_sub_cancel, col_take (by omega) hj, decide_eq_true hne, Bool.true_and, Bool.not_not]
  | back v d =>
    obtain ⟨_, hd, _⟩ := hok
    show decide (memB L v d j = 0) = !(decide (1 < (L.take j).length) && decide (d < ((mv (L.take j) v ((L.take j).length - 1)).natAbs : Int)))
    rw [hl]
    cases j with
    | zero => rfl
    | succ j =>
      have e : memB L v d (j + 1) = if j = 0 then 0 else if d < mv L v j then 1 else if mv L v j < 0 - d then 2 else 0 := rfl
      rw [e]
      by_cases h0 : j = 0
      · simp [h0]
      · have hm : mv (L.take (j + 1)) v (j + 1 - 1) = mv L v j := by
          rw [Nat.add_sub_cancel]
          unfold mv
          rw [col_take (by omega) hj, col_take (by omega) hj]
        rw [hm, if_neg h0, decide_eq_true (show 1 < j + 1 by omega), Bool.true_and]
        generalize mv L v j = x
        by_cases g1 : d < x
        · rw [if_pos g1, decide_eq_true (show d < ((x.natAbs : Nat) : Int) by omega)]
          rfl
        · rw [if_neg g1]
          by_cases g2 : x < 0 - d
          · rw [if_pos g2, decide_eq_true (show d < ((x.natAbs : Nat) : Int) by omega)]
            rfl
          · rw [if_neg g2, decide_eq_false (show ¬ d < ((x.natAbs : Nat) : Int) by omega)]
            rfl
  | span a b s => cases hp : prv L j <;> rfl
  | clock a b m s => cases hp : prv L j <;> rfl
  | move v s => cases hp : prv L j <;> rfl
  | alike a b s => cases hp : prv L j <;> rfl
  | held v m => cases hp : prv L j <;> rfl
  | begin v s => cases hp : prv L j <;> rfl
  | every m a r => cases hp : prv L j <;> rfl
/-- a row as the law has it -/
def rowD : Rul → List D
  | .every m a r => .str wEvery :: .int m :: .int a :: kindD r.kind r.nums
  | r => kindD r.kind r.nums
theorem rowD_flat {r : Rul} (h : r.flat = true) : rowD r = kindD r.kind r.nums := by cases r <;> first | rfl | cases h
theorem row_0 (r : Rul) : subD (.lst (rowD r)) (.int 0) = .ok (.str r.kind) := by cases r <;> exact sub_lst (i := 0) rfl
structure Li (L : List (List Int)) (v : Nat) : Prop where
  len : L.length ≤ 1000
  ok : ∀ c ∈ L, Col c v
theorem Li.col {l : List (List Int)} {v i : Nat} (h : Li l v) (hi : i < l.length) : Col (colAt l i) v := by rw [colAt_eq hi]; exact h.ok _ (List.getElem_mem hi)
theorem Lin.li {l : List (List Int)} {v : Nat} (h : Lin l v) : Li l v := ⟨by have := h.len; omega, h.ok⟩
theorem slc_row {k : Tx} {is : List Int} {n : Nat} : slcD (.lst (kindD k is)) (some ((n + 1 : Nat) : Int)) none = .ok (.fr (intsD (is.drop n))) := by
  rw [slc_lst_from]
  unfold kindD
  rw [List.drop_succ_cons, intsD_drop]
theorem sub_row {k : Tx} {is : List Int} {i : Nat} {x : Int} (h : is[i]? = some x) : subD (.lst (kindD k is)) (.int ((i + 1 : Nat) : Int)) = .ok (.int x) := by
  have hi : i < is.length := (List.getElem?_eq_some_iff.mp h).1
  refine sub_lst ?_
  unfold kindD
  rw [List.getElem?_cons_succ, intsD_at hi]
  rw [List.getElem?_eq_getElem hi] at h
  rw [Option.some.inj h]
theorem abs_eq (m : Int) : (if m < 0 then -m else m) = ((m.natAbs : Nat) : Int) := by split <;> omega
def dueR (r : Rul) (L : List (List Int)) : Option Int := match fst (lb r L) 0 L.length with
  | some p => some p
  | none => if opn r L = true then some (L.length : Int) else none
theorem key_from {r : Rul} {n : Nat} (hn : n ≤ 1000) (hok : r.Ok n) (L : List (List Int)) : ∀ (k i : Nat), i + k = L.length → (∀ j, j < i → lb r L j = false) → r.brk i (Mem r L i) (prv L i) (L.drop i) = match fst (lb r L) i k with | some p => some p | none => if opn r L = true then some (L.length : Int) else none
  | 0, i, hi, hno => by
    have hi : i = L.length := by omega
    subst hi
    rw [List.drop_length]
    have hC := stepC hn hok L L.length (Nat.le_refl _)
    rw [List.take_length] at hC
    show (if r.closes (Mem r L L.length) (prv L L.length) = true then none else some (L.length : Int)) = if opn r L = true then some (L.length : Int) else none
    rw [hC]
    cases opn r L <;> rfl
  | k + 1, i, hi, hno => by
    have hl : i < L.length := by omega
    have h0 := stepA hn hok L i hl hno
    rw [List.drop_eq_getElem_cons hl, ← colAt_eq hl]
    show (match r.after (Mem r L i) (prv L i) (colAt L i) with | none => some (i : Int) | some m' => r.brk (i + 1) m' (some (colAt L i)) (L.drop (i + 1))) = match (if lb r L i = true then some (i : Int) else fst (lb r L) (i + 1) k) with | some p => some p | none => _
    rw [h0]
    cases g : lb r L i with
    | true => rfl
    | false =>
      have ih := key_from hn hok L k (i + 1) (by omega) fun j hj => by
        by_cases h : j = i
        · rw [h]; exact g
        · exact hno j (by omega)
      rw [prv_succ hl] at ih
      exact ih
theorem key {r : Rul} {n : Nat} (hn : n ≤ 1000) (hok : r.Ok n) (L : List (List Int)) : r.broken L = dueR r L := by
  have z := key_from hn hok L L.length 0 (by omega) fun j hj => by omega
  rw [Mem_zero] at z
  exact z
end Fv
end
section
set_option maxHeartbeats 1000000
namespace Fv
def pickR : List (Nat → Bool) → Nat → Nat → Option Nat
  | [], _, _ => none
  | q :: r, j, i => if q j = true then some i else pickR r j (i + 1)
theorem pickR_snoc (q : Nat → Bool) (j : Nat) : ∀ (Q : List (Nat → Bool)) (i : Nat), pickR (Q ++ [q]) j i = match pickR Q j i with | some x => some x | none => if q j = true then some (i + Q.length) else none
  | [], i => rfl
  | p :: Q, i => by
    show (if p j = true then some i else pickR (Q ++ [q]) j (i + 1)) = match (if p j = true then some i else pickR Q j (i + 1)) with | some x => some x | none => _
    by_cases g : p j = true
    · rw [if_pos g, if_pos g]
    · rw [if_neg g, if_neg g, pickR_snoc q j Q (i + 1), List.length_cons, show i + 1 + Q.length = i + (Q.length + 1) from by omega]
def best (Q : List (Nat → Bool)) : Nat → Nat → Option (Int × Int)
  | _, 0 => none
  | a, k + 1 => match pickR Q a 0 with
    | some i => some ((a : Int), (i : Int))
    | none => best Q (a + 1) k
def earl (f : Option (Int × Int)) (p : Option Int) (row : Int) : Option (Int × Int) := match p with
  | none => f
  | some x => match f with
    | none => some (x, row)
    | some y => if x < y.1 then some (x, row) else some y
theorem best_ge {Q : List (Nat → Bool)} : ∀ {k a : Nat} {y : Int × Int}, best Q a k = some y → (a : Int) ≤ y.1
  | 0, _, _, h => by cases h
  | k + 1, a, y, h => by
    have h : (match pickR Q a 0 with | some i => some ((a : Int), (i : Int)) | none => best Q (a + 1) k) = some y := h
    cases e : pickR Q a 0 with
    | some i => rw [e] at h; cases h; exact Int.le_refl _
    | none =>
      rw [e] at h
      have := best_ge h
      omega
theorem best_snoc (Q : List (Nat → Bool)) (q : Nat → Bool) : ∀ (k a : Nat), best (Q ++ [q]) a k = earl (best Q a k) (fst q a k) (Q.length : Int)
  | 0, _ => rfl
  | k + 1, a => by
    have ih := best_snoc Q q k (a + 1)
    show (match pickR (Q ++ [q]) a 0 with | some i => some ((a : Int), (i : Int)) | none => best (Q ++ [q]) (a + 1) k) = earl (match pickR Q a 0 with | some i => some ((a : Int), (i : Int)) | none => best Q (a + 1) k) (if q a = true then some (a : Int) else fst q (a + 1) k) (Q.length : Int)
    rw [pickR_snoc, ih]
    cases e : pickR Q a 0 with
    | some i =>
      show some ((a : Int), (i : Int)) = earl (some ((a : Int), (i : Int))) _ _
      by_cases g : q a = true
      · rw [if_pos g]
        show _ = if (a : Int) < (a : Int) then _ else _
        rw [if_neg (Int.lt_irrefl _)]
      · rw [if_neg g]
        cases h : fst q (a + 1) k with
        | none => rfl
        | some p =>
          obtain ⟨z, rfl, h1, _⟩ := fst_some h
          show _ = if (z : Int) < (a : Int) then _ else _
          rw [if_neg (by omega)]
    | none =>
      by_cases g : q a = true
      · simp only [if_pos g]
        show some ((a : Int), ((0 + Q.length : Nat) : Int)) = _
        rw [Nat.zero_add]
        cases h : best Q (a + 1) k with
        | none => rfl
        | some y =>
          have := best_ge h
          show _ = if (a : Int) < y.1 then _ else _
          rw [if_pos (by omega)]
      · simp only [if_neg g]
theorem fst_snoc (P : Nat → Bool) : ∀ (n i : Nat), fst P i (n + 1) = match fst P i n with | some p => some p | none => if P (i + n) = true then some ((i + n : Nat) : Int) else none
  | 0, i => rfl
  | n + 1, i => by
    show (if P i = true then some (i : Int) else fst P (i + 1) (n + 1)) = match (if P i = true then some (i : Int) else fst P (i + 1) n) with | some p => some p | none => _
    by_cases g : P i = true
    · rw [if_pos g, if_pos g]
    · rw [if_neg g, if_neg g, fst_snoc P n (i + 1), show i + 1 + n = i + (n + 1) from by omega]
theorem Li.take {L : List (List Int)} {n : Nat} (h : Li L n) (m : Nat) : Li (L.take m) n := ⟨by rw [List.length_take]; have := h.len; omega, fun c hc => h.ok c (List.mem_of_mem_take hc)⟩
/-- a voice's note out of its range -/
def outB (lo hi : Int) (v : Nat) (L : List (List Int)) (j : Nat) : Bool := decide (nt (colAt L j) v < lo) || decide (hi < nt (colAt L j) v)
def qV (lo hi : Int) (v : Nat) (L : List (List Int)) (j : Nat) : Bool := if j < L.length then outB lo hi v L j else false
def qR (r : Rul) (L : List (List Int)) (j : Nat) : Bool := if j < L.length then lb r L j else opn r L
theorem fst_qV (lo hi : Int) (v : Nat) (L : List (List Int)) : fst (qV lo hi v L) 0 (L.length + 1) = fst (outB lo hi v L) 0 L.length := by
  rw [fst_snoc, Nat.zero_add]
  have e : qV lo hi v L L.length = false := if_neg (Nat.lt_irrefl _)
  have c : fst (qV lo hi v L) 0 L.length = fst (outB lo hi v L) 0 L.length := fst_congr fun j _ h _ => if_pos (by omega)
  rw [e, c]
  cases fst (outB lo hi v L) 0 L.length <;> rfl
theorem fst_qR (r : Rul) (L : List (List Int)) : fst (qR r L) 0 (L.length + 1) = dueR r L := by
  rw [fst_snoc, Nat.zero_add]
  have e : qR r L L.length = opn r L := if_neg (Nat.lt_irrefl _)
  have c : fst (qR r L) 0 L.length = fst (lb r L) 0 L.length := fst_congr fun j _ h _ => if_pos (by omega)
  rw [e, c]
  rfl
abbrev Rg := List (Int × Int)
def rgD (rg : Rg) : List D := rg.map fun p => .tup [.int p.1, .int p.2]
theorem rgD_len (rg : Rg) : (rgD rg).length = rg.length := List.length_map _
def rulD (rs : List Rul) : List D := rs.map Rul.d
theorem rulD_len (rs : List Rul) : (rulD rs).length = rs.length := List.length_map _
def rowsD (rs : List Rul) : List D := rs.map fun r => .lst (rowD r)
theorem rowsD_len (rs : List Rul) : (rowsD rs).length = rs.length := List.length_map _
theorem rgD_at {rg : Rg} {i : Nat} (h : i < rg.length) : (rgD rg)[i]? = some (.tup [.int rg[i].1, .int rg[i].2]) := by unfold rgD; rw [List.getElem?_map, List.getElem?_eq_getElem h]; rfl
theorem rulD_at {rg : List Rul} {i : Nat} (h : i < rg.length) : (rulD rg)[i]? = some rg[i].d := by unfold rulD; rw [List.getElem?_map, List.getElem?_eq_getElem h]; rfl
theorem rowsD_at {rg : List Rul} {i : Nat} (h : i < rg.length) : (rowsD rg)[i]? = some (.lst (rowD rg[i])) := by unfold rowsD; rw [List.getElem?_map, List.getElem?_eq_getElem h]; rfl
theorem rgD_snoc (rg : Rg) (p : Int × Int) : rgD rg ++ [.tup [.int p.1, .int p.2]] = rgD (rg ++ [p]) := by unfold rgD; rw [List.map_append]; rfl
theorem rulD_snoc (rg : List Rul) (p : Rul) : rulD rg ++ [p.d] = rulD (rg ++ [p]) := by unfold rulD; rw [List.map_append]; rfl
theorem rowsD_snoc (rg : List Rul) (p : Rul) : rowsD rg ++ [.lst (rowD p)] = rowsD (rg ++ [p]) := by unfold rowsD; rw [List.map_append]; rfl
def lo (rg : Rg) (i : Nat) : Int := (rg.getD i (0, 0)).1
def hi (rg : Rg) (i : Nat) : Int := (rg.getD i (0, 0)).2
theorem rg_at {rg : Rg} {i : Nat} (h : i < rg.length) : (rgD rg)[i]? = some (.tup [.int (lo rg i), .int (hi rg i)]) := by
  rw [rgD_at h]
  unfold lo hi
  rw [List.getD_eq_getElem?_getD, List.getElem?_eq_getElem h]
  rfl
def vRows (rg : Rg) (L : List (List Int)) (n : Nat) : List (Nat → Bool) := (List.range n).map fun i => qV (lo rg i) (hi rg i) i L
def rRows (rs : List Rul) (L : List (List Int)) : List (Nat → Bool) := rs.map fun r => qR r L
def allRows (rg : Rg) (rs : List Rul) (L : List (List Int)) : List (Nat → Bool) := vRows rg L rg.length ++ rRows rs L
theorem vRows_succ (rg : Rg) (L : List (List Int)) (n : Nat) : vRows rg L (n + 1) = vRows rg L n ++ [qV (lo rg n) (hi rg n) n L] := by
  unfold vRows
  rw [List.range_succ, List.map_append]
  rfl
theorem vRows_len (rg : Rg) (L : List (List Int)) (n : Nat) : (vRows rg L n).length = n := by unfold vRows; rw [List.length_map, List.length_range]
theorem rRows_succ (rs : List Rul) (L : List (List Int)) {i : Nat} (h : i < rs.length) : rRows (rs.take (i + 1)) L = rRows (rs.take i) L ++ [qR rs[i] L] := by
  unfold rRows
  rw [List.take_succ_eq_append_getElem h, List.map_append]
  rfl
/-- the fault of a line -/
def faultV (rg : Rg) (rs : List Rul) (L : List (List Int)) : Option (Int × Int) := best (allRows rg rs L) 0 (L.length + 1)
def oP : Option (Int × Int) → D
  | none => .non
  | some p => .tup [.int p.1, .int p.2]
theorem oP_none : oP none = .non := rfl
theorem oP_some {p : Int × Int} : oP (some p) = .tup [.int p.1, .int p.2] := rfl
/-- a score as the program has it -/
def scoD (rg : Rg) (rs : List Rul) : D := .ins "Score" ["ranges", "rules"] [.lst (rgD rg), .lst (rulD rs)]
/-- ranges of so many voices -/
structure RgOk2 (rg : Rg) : Prop where
  n1 : 1 ≤ rg.length
  n4 : rg.length ≤ 4
  le : ∀ p ∈ rg, p.1 ≤ p.2 ∧ p.2 - p.1 ≤ 1000 ∧ -200000000000000000000 ≤ p.1 ∧ p.1 ≤ 200000000000000000000
def widths : Rg → Int
  | [] => 1
  | p :: r => (p.2 - p.1 + 1) * widths r
end Fv
end
section
namespace Fv
theorem comp_row {Γ : Fns} {T : Sg} {v n : Nat} {q : Ex} {r : Rul} (hn : n ≤ 1000) (hok : r.Ok n) (hq : ∀ d r, biD .str [d] = .ok r → elt Γ q (T.set v (.fz d)) = .ok r.D) : compL (.one v) T (evT Γ (.cst (.bl true))) (elt Γ q) (rowD r) [] = .ok (strsD r.words) := by
  by_cases hf : r.flat = true
  · obtain ⟨h1, _, _⟩ := Rul.nums_ok hn hok hf
    rw [rowD_flat hf, Rul.words_eq hf]
    exact comp_words h1 hq
  · cases r with
    | every M R r =>
      obtain ⟨g1, g2, g3, g4, g5⟩ := every_words hn hok
      obtain ⟨h1, _, _⟩ := Rul.nums_ok hn g1 g2
      have sR : SmI R := by have := g4.2; unfold SmI at *; omega
      have z := compL_map (tg := .one v) (S := T) (c := evT Γ (.cst (.bl true))) (e := elt Γ q) (fun o : D × Tx => o.1) (fun o => D.str o.2) ((.str wEvery, wEvery) :: (.int M, itx M) :: (.int R, itx R) :: (.str r.kind, r.kind) :: r.nums.map fun i => (.int i, itx i)) [] fun x hx => by
        have hs : biD .str [x.1] = .ok (.d (.str x.2)) := by
          rcases List.mem_cons.mp hx with rfl | hx
          · rfl
          rcases List.mem_cons.mp hx with rfl | hx
          · exact bi_str_int (smi_bt g4.2)
          rcases List.mem_cons.mp hx with rfl | hx
          · exact bi_str_int (smi_bt sR)
          rcases List.mem_cons.mp hx with rfl | hx
          · rfl
          obtain ⟨i, hi, rfl⟩ := List.mem_map.mp hx
          exact bi_str_int (smi_bt (h1 i hi))
        exact ⟨_, rfl, by simp, hq _ _ hs⟩
      have hw : (Rul.every M R r).words = wEvery :: itx M :: itx R :: r.kind :: r.nums.map itx := by
        show wEvery :: itx M :: itx R :: r.words = _
        rw [Rul.words_eq g2]
      have hr : rowD (.every M R r) = .str wEvery :: .int M :: .int R :: kindD r.kind r.nums := rfl
      rw [hw, hr]
      unfold kindD intsD strsD
      simp only [List.map_cons, List.map_map, List.nil_append] at z ⊢
      exact z
    | _ => exact absurd rfl hf
def wVoice : Tx := [118, 111, 105, 99, 101]
def rangeW (p : Int × Int) : List Tx := [wVoice, itx p.1, itx p.2]
def rangeT (p : Int × Int) : Tx := TL.joinL [32] (rangeW p)
theorem rangeT_eq (a b : Int) : [118, 111, 105, 99, 101, 32] ++ itx a ++ [32] ++ itx b = rangeT (a, b) := by
  show _ = wVoice ++ ([32] ++ (itx a ++ ([32] ++ itx b)))
  simp [wVoice]
/-- a range that a text may tell -/
def RgOk (p : Int × Int) : Prop := SmI p.1 ∧ SmI p.2 ∧ p.1 ≤ p.2
theorem range_words {p : Int × Int} (h : RgOk p) : ∀ w ∈ rangeW p, wordOk w := fun w hw => by
  rcases List.mem_cons.mp hw with e | hw
  · rw [e]; exact ⟨by exact ⟨by decide, by decide⟩, by decide, by decide⟩
  · rcases List.mem_cons.mp hw with e | hw
    · rw [e]; exact itx_word h.1
    · rw [List.mem_singleton.mp hw]; exact itx_word h.2.1
theorem range_split {p : Int × Int} (h : RgOk p) : m1D .split (rangeT p) (.str [32]) = .ok (.fr (strsD (rangeW p))) := (split_words (range_words h) (show (3 : Nat) ≤ 1000 by decide) (by simp [rangeW])).1
theorem range_len {p : Int × Int} (h : RgOk p) : (rangeT p).length ≤ 42000 := (split_words (range_words h) (show (3 : Nat) ≤ 1000 by decide) (by simp [rangeW])).2
theorem words_ne (r : Rul) : r.words ≠ [] := by cases r <;> exact List.cons_ne_nil _ _
theorem rule_split {n : Nat} (hn : n ≤ 1000) {r : Rul} (h : r.Ok n) : m1D .split r.text (.str [32]) = .ok (.fr (strsD r.words)) := (split_words (all_words hn h).1 (Nat.le_trans (all_words hn h).2 (by decide)) (words_ne r)).1
theorem rule_len {n : Nat} (hn : n ≤ 1000) {r : Rul} (h : r.Ok n) : r.text.length ≤ 42000 := (split_words (all_words hn h).1 (Nat.le_trans (all_words hn h).2 (by decide)) (words_ne r)).2
theorem rule_join {n : Nat} (hn : n ≤ 1000) {r : Rul} (h : r.Ok n) : m1D .join [32] (.lst (strsD r.words)) = .ok (.d (.str r.text)) := join_words (all_words hn h).1 (Nat.le_trans (all_words hn h).2 (by decide))
theorem itx_no {i : Int} {c : Nat} (h : c = 10 ∨ c = 59) : c ∉ itx i := fun hc => by have := itx_sign hc; omega
theorem flat_no {c : Nat} (h : c = 10 ∨ c = 59) {k : Tx} {is : List Int} (hk : c ∉ k) (w : Tx) (hw : w ∈ k :: is.map itx) : c ∉ w := by
  rcases List.mem_cons.mp hw with e | hw
  · rw [e]; exact hk
  · obtain ⟨i, _, rfl⟩ := List.mem_map.mp hw
    exact itx_no h
theorem words_no {c : Nat} (h : c = 10 ∨ c = 59) : ∀ (r : Rul) (w : Tx), w ∈ r.words → c ∉ w
  | .every m a r, w, hw => by
    rcases List.mem_cons.mp hw with e | hw
    · rw [e]; rcases h with h | h <;> subst h <;> decide
    · rcases List.mem_cons.mp hw with e | hw
      · rw [e]; exact itx_no h
      · rcases List.mem_cons.mp hw with e | hw
        · rw [e]; exact itx_no h
        · exact words_no h r w hw
  | .span a b s, w, hw => flat_no (k := wSpan) h (by rcases h with h | h <;> subst h <;> decide) w hw
  | .clock a b m s, w, hw => flat_no (k := wClock) h (by rcases h with h | h <;> subst h <;> decide) w hw
  | .move v s, w, hw => flat_no (k := wMove) h (by rcases h with h | h <;> subst h <;> decide) w hw
  | .alike a b s, w, hw => flat_no (k := wAlike) h (by rcases h with h | h <;> subst h <;> decide) w hw
  | .back v d, w, hw => flat_no (k := wBack) h (by rcases h with h | h <;> subst h <;> decide) w hw
  | .held v m, w, hw => flat_no (k := wHeld) h (by rcases h with h | h <;> subst h <;> decide) w hw
  | .times v x lo hi, w, hw => flat_no (k := wTimes) h (by rcases h with h | h <;> subst h <;> decide) w hw
  | .begin v s, w, hw => flat_no (k := wBegin) h (by rcases h with h | h <;> subst h <;> decide) w hw
  | .close v s, w, hw => flat_no (k := wClose) h (by rcases h with h | h <;> subst h <;> decide) w hw
theorem rule_no {c : Nat} (h : c = 10 ∨ c = 59) (r : Rul) : c ∉ r.text := fun hc => by
  rcases joinL_in hc with hc | ⟨y, hy, hc⟩
  · rw [List.mem_singleton] at hc; omega
  · exact words_no h r y hy hc
theorem range_no {c : Nat} (h : c = 10 ∨ c = 59) (p : Int × Int) : c ∉ rangeT p := fun hc => by
  rcases joinL_in hc with hc | ⟨y, hy, hc⟩
  · rw [List.mem_singleton] at hc; omega
  · rcases List.mem_cons.mp hy with e | hy
    · rw [e] at hc
      revert hc
      rcases h with h | h <;> subst h <;> decide
    · rcases List.mem_cons.mp hy with e | hy
      · rw [e] at hc; exact itx_no h hc
      · rw [List.mem_singleton.mp hy] at hc; exact itx_no h hc
def rowsT (rg : Rg) (rs : List Rul) : List Tx := rg.map rangeT ++ rs.map Rul.text
def scoreT (rg : Rg) (rs : List Rul) : Tx := TL.joinL [10] (rowsT rg rs)
theorem rowsT_len (rg : Rg) (rs : List Rul) : (rowsT rg rs).length = rg.length + rs.length := by unfold rowsT; rw [List.length_append, List.length_map, List.length_map]
theorem rowsT_a {rg : Rg} {rs : List Rul} {i : Nat} (h : i < rg.length) : (rowsT rg rs)[i]? = some (rangeT rg[i]) := by
  unfold rowsT
  rw [List.getElem?_append_left (by rw [List.length_map]; exact h), List.getElem?_map, List.getElem?_eq_getElem h]
  rfl
theorem rowsT_b {rg : Rg} {rs : List Rul} {u : Nat} (h : u < rs.length) : (rowsT rg rs)[rg.length + u]? = some rs[u].text := by
  unfold rowsT
  rw [List.getElem?_append_right (by rw [List.length_map]; omega), List.length_map, Nat.add_sub_cancel_left, List.getElem?_map, List.getElem?_eq_getElem h]
  rfl
theorem rowsT_le {rg : Rg} {rs : List Rul} {n : Nat} (hn : n ≤ 1000) (hg : ∀ p ∈ rg, RgOk p) (hr : ∀ r ∈ rs, r.Ok n) : ∀ y ∈ rowsT rg rs, y.length ≤ 42000 := fun y hy => by
  rcases List.mem_append.mp hy with hy | hy
  · obtain ⟨p, hp, rfl⟩ := List.mem_map.mp hy
    exact range_len (hg p hp)
  · obtain ⟨r, h, rfl⟩ := List.mem_map.mp hy
    exact rule_len hn (hr r h)
theorem rowsT_no {c : Nat} (h : c = 10 ∨ c = 59) (rg : Rg) (rs : List Rul) : ∀ y ∈ rowsT rg rs, c ∉ y := fun y hy => by
  rcases List.mem_append.mp hy with hy | hy
  · obtain ⟨p, hp, rfl⟩ := List.mem_map.mp hy
    exact range_no h p
  · obtain ⟨r, hr, rfl⟩ := List.mem_map.mp hy
    exact rule_no h r
theorem score_join {rg : Rg} {rs : List Rul} {n : Nat} (hn : n ≤ 1000) (hg : ∀ p ∈ rg, RgOk p) (hr : ∀ r ∈ rs, r.Ok n) (hl : rg.length + rs.length ≤ 100) : m1D .join [10] (.lst (strsD (rowsT rg rs))) = .ok (.d (.str (scoreT rg rs))) :=
  m1_join (b := 42000) (rowsT_le hn hg hr) rfl (by rw [rowsT_len]; omega)
theorem score_split {rg : Rg} {rs : List Rul} {n : Nat} (hn : n ≤ 1000) (hg : ∀ p ∈ rg, RgOk p) (hr : ∀ r ∈ rs, r.Ok n) (hl : rg.length + rs.length ≤ 100) (hne : 1 ≤ rg.length + rs.length) : m1D .split (scoreT rg rs) (.str [10]) = .ok (.fr (strsD (rowsT rg rs))) :=
  m1_split (by decide) (fun e => by have := rowsT_len rg rs; rw [e] at this; simp at this; omega) (rowsT_no (.inl rfl) rg rs) (by
    have := joinL_len (ys := rowsT rg rs) (s := 10) (rowsT_le hn hg hr)
    rw [rowsT_len] at this
    show (TL.joinL [10] (rowsT rg rs)).length + 2 ≤ _
    omega)
def heavyR (rg : Rg) : Int := rg.foldl (fun a p => a * (p.2 - p.1 + 1)) 1
def weightV (rg : Rg) (rs : List Rul) : Int := rs.foldl (fun a r => a * r.size) (heavyR rg)
theorem heavyR_succ {rg : Rg} {i : Nat} (h : i < rg.length) : heavyR (rg.take (i + 1)) = heavyR (rg.take i) * (hi rg i - lo rg i + 1) := by
  unfold heavyR
  rw [List.take_succ_eq_append_getElem h, List.foldl_append]
  unfold lo hi
  rw [List.getD_eq_getElem?_getD, List.getElem?_eq_getElem h]
  rfl
theorem weightV_snoc (rg : Rg) (rs : List Rul) (r : Rul) : weightV rg (rs ++ [r]) = weightV rg rs * r.size := by
  unfold weightV
  rw [List.foldl_append]
  rfl
theorem size_pos {r : Rul} {n : Nat} (h : r.Ok n) : 1 ≤ r.size ∧ r.size ≤ 100000000000000000000000000000000000000000 := by
  have g : ∀ i, SmI i → i < 10000000000000000000000000000000000000000 := fun i h => by have h : i.natAbs < 10000000000000000000000000000000000000000 := h; omega
  cases r with
  | held v m => exact ⟨h.2.1, show m ≤ _ from by have := g _ h.2.2; omega⟩
  | times v x lo hi => exact ⟨show 1 ≤ hi + 1 from by have := h.2.2.2.1; omega, show hi + 1 ≤ _ from by have := g _ h.2.2.2.2; omega⟩
  | every m a r => cases r with
    | span c d s => exact ⟨h.1.1, show m ≤ _ from by have := g _ h.1.2; omega⟩
    | clock c d k s => exact ⟨h.1.1, show m ≤ _ from by have := g _ h.1.2; omega⟩
    | _ => cases h
  | back v d => exact ⟨show (1 : Int) ≤ 3 by decide, show (3 : Int) ≤ _ by decide⟩
  | _ => exact ⟨show (1 : Int) ≤ 1 by decide, show (1 : Int) ≤ _ by decide⟩
theorem mul_ge {a b : Int} (ha : 1 ≤ a) (hb : 1 ≤ b) : a ≤ a * b ∧ b ≤ a * b ∧ 1 ≤ a * b := by
  have h1 : a * 1 ≤ a * b := Int.mul_le_mul_of_nonneg_left hb (by omega)
  have h2 : 1 * b ≤ a * b := Int.mul_le_mul_of_nonneg_right ha (by omega)
  omega
theorem lohi {rg : Rg} {i : Nat} (h : i < rg.length) (hg : ∀ p ∈ rg, RgOk p) : SmI (lo rg i) ∧ SmI (hi rg i) ∧ lo rg i ≤ hi rg i := by
  have g := hg _ (List.getElem_mem h)
  unfold lo hi
  rw [List.getD_eq_getElem?_getD, List.getElem?_eq_getElem h]
  exact g
theorem heavyR_pos {rg : Rg} (hg : ∀ p ∈ rg, RgOk p) : ∀ i, i ≤ rg.length → 1 ≤ heavyR (rg.take i)
  | 0, _ => by rw [List.take_zero]; exact Int.le_refl _
  | i + 1, h => by
    have h1 := heavyR_pos hg i (by omega)
    rw [heavyR_succ (by omega)]
    have := lohi (show i < rg.length by omega) hg
    exact (mul_ge h1 (by omega)).2.2
theorem heavyR_up {rg : Rg} (hg : ∀ p ∈ rg, RgOk p) : ∀ d i, i + d = rg.length → heavyR (rg.take i) ≤ heavyR rg
  | 0, i, h => by rw [List.take_of_length_le (by omega)]; exact Int.le_refl _
  | d + 1, i, h => by
    have h1 := heavyR_up hg d (i + 1) (by omega)
    rw [heavyR_succ (by omega)] at h1
    have := lohi (show i < rg.length by omega) hg
    have := (mul_ge (heavyR_pos hg i (by omega)) (show 1 ≤ hi rg i - lo rg i + 1 by omega)).1
    omega
theorem heavyR_fac {rg : Rg} (hg : ∀ p ∈ rg, RgOk p) {i : Nat} (h : i < rg.length) : hi rg i - lo rg i + 1 ≤ heavyR rg := by
  have h1 := heavyR_up hg (rg.length - (i + 1)) (i + 1) (by omega)
  rw [heavyR_succ h] at h1
  have := lohi h hg
  have := (mul_ge (heavyR_pos hg i (by omega)) (show 1 ≤ hi rg i - lo rg i + 1 by omega)).2.1
  omega
theorem weightV_succ (rg : Rg) {rs : List Rul} {i : Nat} (h : i < rs.length) : weightV rg (rs.take (i + 1)) = weightV rg (rs.take i) * rs[i].size := by
  rw [List.take_succ_eq_append_getElem h, weightV_snoc]
theorem weightV_pos {rg : Rg} {rs : List Rul} {n : Nat} (hg : ∀ p ∈ rg, RgOk p) (hr : ∀ r ∈ rs, r.Ok n) : ∀ i, i ≤ rs.length → 1 ≤ weightV rg (rs.take i)
  | 0, _ => by
    have := heavyR_pos hg rg.length (Nat.le_refl _)
    rw [List.take_length] at this
    exact this
  | i + 1, h => by
    have h1 := weightV_pos hg hr i (by omega)
    rw [weightV_succ rg (by omega)]
    exact (mul_ge h1 (size_pos (hr _ (List.getElem_mem _))).1).2.2
theorem weightV_up {rg : Rg} {rs : List Rul} {n : Nat} (hg : ∀ p ∈ rg, RgOk p) (hr : ∀ r ∈ rs, r.Ok n) : ∀ d i, i + d = rs.length → weightV rg (rs.take i) ≤ weightV rg rs
  | 0, i, h => by rw [List.take_of_length_le (by omega)]; exact Int.le_refl _
  | d + 1, i, h => by
    have h1 := weightV_up hg hr d (i + 1) (by omega)
    rw [weightV_succ rg (by omega)] at h1
    have := (mul_ge (weightV_pos hg hr i (by omega)) (size_pos (hr _ (List.getElem_mem (show i < rs.length by omega)))).1).1
    omega
theorem heavyR_weight {rg : Rg} {rs : List Rul} {n : Nat} (hg : ∀ p ∈ rg, RgOk p) (hr : ∀ r ∈ rs, r.Ok n) : heavyR rg ≤ weightV rg rs := weightV_up hg hr rs.length 0 (by omega)
theorem clb_rgD (rg : Rg) : clb (.lst (rgD rg)) = true := by
  show (rgD rg).all (D.cl 4) = true
  rw [List.all_eq_true]
  intro x hx
  obtain ⟨c, _, rfl⟩ := List.mem_map.mp hx
  rfl
theorem eq_rg_nil {rg : Rg} (h : 1 ≤ rg.length) : cmpD .eq (.lst (rgD rg)) (.lst []) = .ok false := by
  rw [eq_lst (clb_rgD rg) rfl]
  congr 1
  rw [decide_eq_false_iff_not]
  intro e
  cases rg with
  | nil => exact absurd h (by decide)
  | cons a r => cases e
theorem kind_voice (r : Rul) : decide (r.kind = wVoice) = false := by cases r <;> rfl
theorem words_0 (r : Rul) : subD (.lst (strsD r.words)) (.int 0) = .ok (.str r.kind) := by cases r <;> exact sub_lst (i := 0) rfl
theorem row_len {r : Rul} {n : Nat} (hn : n ≤ 1000) (hok : r.Ok n) : (rowD r).length ≤ 1000 := by
  by_cases hf : r.flat = true
  · obtain ⟨_, h2, _⟩ := Rul.nums_ok hn hok hf
    rw [rowD_flat hf, kindD_len]; omega
  · cases r with
    | every M R r =>
      obtain ⟨g1, g2, _⟩ := every_words hn hok
      obtain ⟨_, h2, _⟩ := Rul.nums_ok hn g1 g2
      show (D.str wEvery :: .int M :: .int R :: kindD r.kind r.nums).length ≤ 1000
      rw [List.length_cons, List.length_cons, List.length_cons, kindD_len]; omega
    | _ => exact absurd rfl hf
theorem rule_pl {n : Nat} (hn : n ≤ 1000) {r : Rul} (h : r.Ok n) : Pl 16777216 r.text := by
  refine ⟨List.all_eq_true.mpr fun c hc => ?_, by have := rule_len hn h; omega⟩
  rcases joinL_in hc with hc | ⟨y, hy, hc⟩
  · rw [List.mem_singleton.mp hc]; rfl
  · exact List.all_eq_true.mp ((all_words hn h).1 y hy).1.1 c hc
theorem rule_ne (r : Rul) : r.text ≠ [] := fun h => by
  have k0 : r.kind ≠ [] := by cases r <;> exact List.cons_ne_nil _ _
  have : ∃ t, r.words = r.kind :: t := by cases r <;> exact ⟨_, rfl⟩
  obtain ⟨t, ht⟩ := this
  unfold Rul.text at h
  rw [ht] at h
  cases t with
  | nil => exact k0 h
  | cons a t => exact k0 (List.append_eq_nil_iff.mp (show r.kind ++ ([32] ++ TL.joinL [32] (a :: t)) = [] from h)).1
end Fv
end
section
set_option maxHeartbeats 4000000
namespace Lk23
open Fv PySem PySem.Spec PyProof.Rows L2
def top (i : Nat) : Stmt := PySem.Challenge.pw_fourvoices_k23_the_fault_of_a_line.main.body.getD i (.Pass ⟨0, 0, 0, 0⟩)
def mth (i j : Nat) : Stmt := (C8.clsBody (top i)).getD j (.Pass ⟨0, 0, 0, 0⟩)
def b_l_stirred_0 : Sms := (.cons (.setT [5, 6] (.bi .divmod (.cons (.var 3) (.cons (.cst (.int 4099)) .nil)))) (.cons (.set 3 (.bin .mod (.bin .add (.bin .add (.bin .add (.bin .mul (.var 6) (.cst (.int 240007))) (.bin .mul (.var 5) (.cst (.int 89)))) (.bin .mul (.cst (.int 1201)) (.var 4))) (.cst (.int 11))) (.cst (.int 998244353)))) (.cons (.set 2 (.bin .add (.bin .mul (.var 2) (.cst (.int 998244353))) (.var 3))) .nil)))
def a_l_stirred : Df := ⟨2, 7, [], (.cons (.set 2 (.cst (.int 0))) (.cons (.set 3 (.bin .add (.bin .mod (.bin .add (.bin .mod (.var 0) (.cst (.int 998244341))) (.bin .mul (.cst (.int 7919)) (.var 1))) (.cst (.int 998244353))) (.cst (.int 3)))) (.cons (.for_ (.one 4) (.rng (.cst (.int 4))) b_l_stirred_0) (.cons (.ret (.var 2)) .nil))))⟩
def n_l_stirred : List Str := ["_law_cell", "_law_place", "_law_found", "_law_rest", "_law_turn", "_law_upper", "_law_lower"]
def p_l_stirred : List Str := ["_law_cell", "_law_place"]
def c_l_stirred : Ck := ⟨n_l_stirred, defScope (top 50), defScope (top 50), [], ["divmod", "range"], [], [], [], [], []⟩
theorem e_l_stirred : embSs c_l_stirred a_l_stirred.body (defBody (top 50)) = true := by decide +kernel
theorem s_l_stirred : FnScope n_l_stirred p_l_stirred (defScope (top 50)) := C8.fnScope_by (by decide +kernel)
def b_l_got_0 : Sms := (.cons (.set 3 (.bin .mul (.var 3) (.bin .pow (.cst (.int 10)) (.cst (.int 6))))) .nil)
def b_l_got_1 : Sms := (.cons (.set 3 (.cst (.int 1))) (.cons (.whl (.cmp .le (.var 3) (.bi .abs (.cons (.var 2) .nil))) b_l_got_0) (.cons (.ret (.bin .add (.bi .abs (.cons (.var 2) .nil)) (.bin .mul (.var 3) (.call "_law_stirred" (.cons (.bi .abs (.cons (.var 2) .nil)) (.cons (.var 1) .nil)))))) .nil)))
def a_l_got : Df := ⟨2, 4, [], (.cons (.for_ (.one 2) (.seq (.slc (.var 0) (.var 1) (.bin .add (.var 1) (.cst (.int 1))))) b_l_got_1) (.cons (.ret (.cst (.int 0))) .nil))⟩
def n_l_got : List Str := ["_law_script", "_law_place", "_law_cell", "_law_power"]
def p_l_got : List Str := ["_law_script", "_law_place"]
def c_l_got : Ck := ⟨n_l_got, defScope (top 51), defScope (top 51), [], ["abs"], [("_law_stirred", 2)], [], [], [], []⟩
theorem e_l_got : embSs c_l_got a_l_got.body (defBody (top 51)) = true := by decide +kernel
theorem s_l_got : FnScope n_l_got p_l_got (defScope (top 51)) := C8.fnScope_by (by decide +kernel)
def b_l_ranges_0 : Sms := (.cons (.set 5 (.call "_law_got" (.cons (.var 0) (.cons (.bin .add (.cst (.int 1)) (.var 4)) .nil)))) (.cons (.set 6 (.bin .sub (.bin .add (.var 2) (.bin .mod (.bin .fdiv (.var 5) (.cst (.int 4))) (.cst (.int 81)))) (.cst (.int 40)))) (.cons (.ifs (.and (.cmp .eq (.bin .mod (.bin .fdiv (.var 5) (.cst (.int 324))) (.cst (.int 2))) (.cst (.int 0))) (.cmp .gt (.var 4) (.cst (.int 0)))) (.cons (.set 6 (.bin .sub (.bin .add (.sub (.sub (.var 3) (.cst (.int 0))) (.cst (.int 0))) (.bin .mod (.bin .fdiv (.var 5) (.cst (.int 4))) (.cst (.int 5)))) (.cst (.int 2)))) .nil) .nil) (.cons (.app 3 (.tup (.cons (.var 6) (.cons (.bin .add (.var 6) (.bin .mod (.var 5) (.cst (.int 4)))) .nil)))) .nil))))
def a_l_ranges : Df := ⟨1, 7, [], (.cons (.set 1 (.call "_law_got" (.cons (.var 0) (.cons (.cst (.int 0)) .nil)))) (.cons (.set 2 (.sub (.lst (.cons (.cst (.int 0)) (.cons (.bin .pow (.cst (.int 10)) (.cst (.int 20))) (.cons (.cst (.int 0)) (.cons (.cst (.int 0)) .nil))))) (.bin .mod (.bin .fdiv (.var 1) (.cst (.int 4))) (.cst (.int 4))))) (.frz 2 (.cons (.set 3 (.lst .nil)) (.cons (.for_ (.one 4) (.rng (.bin .add (.cst (.int 1)) (.bin .mod (.var 1) (.cst (.int 4))))) b_l_ranges_0) (.cons (.ret (.var 3)) .nil))))))⟩
def n_l_ranges : List Str := ["_law_script", "_law_first", "_law_far", "_law_found", "_law_k", "_law_cell", "_law_low"]
def p_l_ranges : List Str := ["_law_script"]
def c_l_ranges : Ck := ⟨n_l_ranges, defScope (top 53), defScope (top 53), [], ["range"], [("_law_got", 2)], [], [], [], []⟩
theorem e_l_ranges : embSs c_l_ranges a_l_ranges.body (defBody (top 53)) = true := by decide +kernel
theorem s_l_ranges : FnScope n_l_ranges p_l_ranges (defScope (top 53)) := C8.fnScope_by (by decide +kernel)
def b_l_some_0 : Sms := (.cons (.setT [3, 5] (.bi .divmod (.cons (.var 3) (.cons (.cst (.int 2)) .nil)))) (.cons (.ifs (.cmp .eq (.bin .mod (.var 1) (.cst (.int 2))) (.cst (.int 1))) (.cons (.set 5 (.bin .mod (.bin .fdiv (.bin .mul (.bin .mod (.bin .fdiv (.var 1) (.cst (.int 2))) (.cst (.int 10007))) (.bin .add (.bin .add (.bin .mul (.var 4) (.var 4)) (.bin .mul (.cst (.int 5)) (.var 4))) (.cst (.int 3)))) (.cst (.int 7))) (.cst (.int 4)))) .nil) .nil) (.cons (.ifs (.cmp .gt (.var 5) (.cst (.int 0))) (.cons (.app 2 (.sub (.var 0) (.var 4))) .nil) .nil) .nil)))
def a_l_some : Df := ⟨2, 6, [], (.cons (.set 2 (.lst .nil)) (.cons (.set 3 (.bin .fdiv (.var 1) (.cst (.int 2)))) (.cons (.for_ (.one 4) (.rng (.bi .len (.cons (.var 0) .nil))) b_l_some_0) (.cons (.ifs (.cmp .eq (.var 2) (.lst .nil)) (.cons (.ret (.lst (.cons (.sub (.var 0) (.cst (.int 0))) .nil))) .nil) .nil) (.cons (.ret (.slcH (.var 2) (.cst (.int 12)))) .nil)))))⟩
def n_l_some : List Str := ["_law_values", "_law_bits", "_law_found", "_law_rest", "_law_k", "_law_taken"]
def p_l_some : List Str := ["_law_values", "_law_bits"]
def c_l_some : Ck := ⟨n_l_some, defScope (top 55), defScope (top 55), [], ["divmod", "len", "range"], [], [], [], [], []⟩
theorem e_l_some : embSs c_l_some a_l_some.body (defBody (top 55)) = true := by decide +kernel
theorem s_l_some : FnScope n_l_some p_l_some (defScope (top 55)) := C8.fnScope_by (by decide +kernel)
def a_l_spans : Df := ⟨3, 3, [], (.cons (.ret (.lrg (.bin .sub (.sub (.sub (.var 0) (.var 2)) (.cst (.int 0))) (.sub (.sub (.var 0) (.var 1)) (.cst (.int 1)))) (.bin .add (.bin .sub (.sub (.sub (.var 0) (.var 2)) (.cst (.int 1))) (.sub (.sub (.var 0) (.var 1)) (.cst (.int 0)))) (.cst (.int 1))))) .nil)⟩
def n_l_spans : List Str := ["_law_ranges_here", "_law_a", "_law_b"]
def p_l_spans : List Str := ["_law_ranges_here", "_law_a", "_law_b"]
def c_l_spans : Ck := ⟨n_l_spans, defScope (top 56), defScope (top 56), [], ["list", "range"], [], [], [], [], []⟩
theorem e_l_spans : embSs c_l_spans a_l_spans.body (defBody (top 56)) = true := by decide +kernel
theorem s_l_spans : FnScope n_l_spans p_l_spans (defScope (top 56)) := C8.fnScope_by (by decide +kernel)
def a_l_single : Df := ⟨3, 6, [], (.cons (.set 3 (.bin .mod (.var 0) (.bi .len (.cons (.var 2) .nil)))) (.cons (.set 4 (.bin .mod (.bin .fdiv (.var 0) (.cst (.int 3))) (.bi .len (.cons (.var 2) .nil)))) (.cons (.ifs (.cmp .eq (.bin .mod (.bin .fdiv (.var 0) (.cst (.int 9))) (.cst (.int 2))) (.cst (.int 0))) (.cons (.ret (.bin .add (.lst (.cons (.cst (.str [115, 112, 97, 110])) (.cons (.bin .add (.var 3) (.cst (.int 1))) (.cons (.bin .add (.var 4) (.cst (.int 1))) .nil)))) (.call "_law_some" (.cons (.call "_law_spans" (.cons (.var 2) (.cons (.var 3) (.cons (.var 4) .nil)))) (.cons (.var 1) .nil))))) .nil) .nil) (.cons (.set 5 (.bin .add (.cst (.int 1)) (.bin .mod (.bin .fdiv (.var 0) (.cst (.int 18))) (.cst (.int 5))))) (.cons (.ret (.bin .add (.lst (.cons (.cst (.str [99, 108, 111, 99, 107])) (.cons (.bin .add (.var 3) (.cst (.int 1))) (.cons (.bin .add (.var 4) (.cst (.int 1))) (.cons (.var 5) .nil))))) (.call "_law_some" (.cons (.lrg1 (.var 5)) (.cons (.var 1) .nil))))) .nil)))))⟩
def n_l_single : List Str := ["_law_cell", "_law_bits", "_law_ranges_here", "_law_a", "_law_b", "_law_beat"]
def p_l_single : List Str := ["_law_cell", "_law_bits", "_law_ranges_here"]
def c_l_single : Ck := ⟨n_l_single, defScope (top 57), defScope (top 57), [], ["len", "list", "range"], [("_law_some", 2), ("_law_spans", 3)], [], [], [], []⟩
theorem e_l_single : embSs c_l_single a_l_single.body (defBody (top 57)) = true := by decide +kernel
theorem s_l_single : FnScope n_l_single p_l_single (defScope (top 57)) := C8.fnScope_by (by decide +kernel)
def a_l_rule : Df := ⟨3, 11, [], (.cons (.set 3 (.bin .mod (.var 0) (.cst (.int 9)))) (.cons (.set 4 (.bin .mod (.bin .fdiv (.var 0) (.cst (.int 9))) (.bin .pow (.cst (.int 10)) (.cst (.int 9))))) (.cons (.set 5 (.bin .mod (.var 4) (.bi .len (.cons (.var 2) .nil)))) (.cons (.setT [6, 7] (.sub (.var 2) (.var 5))) (.cons (.set 8 (.lrg (.var 6) (.bin .add (.var 7) (.cst (.int 1))))) (.frz 8 (.cons (.ifs (.cmp .lt (.var 3) (.cst (.int 2))) (.cons (.ret (.call "_law_single" (.cons (.bin .add (.bin .mul (.cst (.int 2)) (.var 4)) (.var 3)) (.cons (.var 1) (.cons (.var 2) .nil))))) .nil) .nil) (.cons (.ifs (.cmp .eq (.var 3) (.cst (.int 2))) (.cons (.ret (.bin .add (.lst (.cons (.cst (.str [109, 111, 118, 101])) (.cons (.bin .add (.var 5) (.cst (.int 1))) .nil))) (.call "_law_some" (.cons (.lrg (.bin .sub (.var 6) (.var 7)) (.bin .add (.bin .sub (.var 7) (.var 6)) (.cst (.int 1)))) (.cons (.var 1) .nil))))) .nil) .nil) (.cons (.ifs (.cmp .eq (.var 3) (.cst (.int 3))) (.cons (.set 9 (.bin .mod (.bin .fdiv (.var 4) (.cst (.int 3))) (.bi .len (.cons (.var 2) .nil)))) (.cons (.ret (.bin .add (.lst (.cons (.cst (.str [97, 108, 105, 107, 101])) (.cons (.bin .add (.var 5) (.cst (.int 1))) (.cons (.bin .add (.var 9) (.cst (.int 1))) .nil)))) (.call "_law_some" (.cons (.call "_law_spans" (.cons (.var 2) (.cons (.var 5) (.cons (.var 9) .nil)))) (.cons (.var 1) .nil))))) .nil)) .nil) (.cons (.ifs (.cmp .eq (.var 3) (.cst (.int 4))) (.cons (.ret (.lst (.cons (.cst (.str [98, 97, 99, 107])) (.cons (.bin .add (.var 5) (.cst (.int 1))) (.cons (.bin .mod (.bin .fdiv (.var 4) (.cst (.int 9))) (.cst (.int 3))) .nil))))) .nil) .nil) (.cons (.ifs (.cmp .eq (.var 3) (.cst (.int 5))) (.cons (.ret (.lst (.cons (.cst (.str [104, 101, 108, 100])) (.cons (.bin .add (.var 5) (.cst (.int 1))) (.cons (.bin .add (.cst (.int 1)) (.bin .mod (.bin .fdiv (.var 4) (.cst (.int 9))) (.cst (.int 3)))) .nil))))) .nil) .nil) (.cons (.ifs (.cmp .eq (.var 3) (.cst (.int 6))) (.cons (.ret (.lst (.cons (.cst (.str [116, 105, 109, 101, 115])) (.cons (.bin .add (.var 5) (.cst (.int 1))) (.cons (.sub (.var 8) (.bin .mod (.bin .fdiv (.var 4) (.cst (.int 9))) (.bi .len (.cons (.var 8) .nil)))) (.cons (.bin .mod (.bin .fdiv (.var 4) (.cst (.int 36))) (.cst (.int 3))) (.cons (.bin .mod (.bin .fdiv (.var 4) (.cst (.int 108))) (.cst (.int 4))) .nil))))))) .nil) .nil) (.cons (.ifs (.cmp .eq (.var 3) (.cst (.int 7))) (.cons (.ret (.bin .add (.lst (.cons (.sub (.lst (.cons (.cst (.str [98, 101, 103, 105, 110])) (.cons (.cst (.str [99, 108, 111, 115, 101])) .nil))) (.bin .mod (.bin .fdiv (.var 4) (.cst (.int 9))) (.cst (.int 2)))) (.cons (.bin .add (.var 5) (.cst (.int 1))) .nil))) (.call "_law_some" (.cons (.var 8) (.cons (.var 1) .nil))))) .nil) .nil) (.cons (.set 10 (.bin .add (.cst (.int 1)) (.bin .mod (.bin .fdiv (.var 4) (.cst (.int 9))) (.cst (.int 3))))) (.cons (.ret (.bin .add (.lst (.cons (.cst (.str [101, 118, 101, 114, 121])) (.cons (.var 10) (.cons (.bin .mod (.bin .fdiv (.var 4) (.cst (.int 27))) (.var 10)) .nil)))) (.call "_law_single" (.cons (.bin .fdiv (.var 4) (.cst (.int 81))) (.cons (.var 1) (.cons (.var 2) .nil)))))) .nil)))))))))))))))⟩
def n_l_rule : List Str := ["_law_cell", "_law_bits", "_law_ranges_here", "_law_kind", "_law_rest", "_law_a", "_law_low", "_law_high", "_law_notes", "_law_b", "_law_beat"]
def p_l_rule : List Str := ["_law_cell", "_law_bits", "_law_ranges_here"]
def c_l_rule : Ck := ⟨n_l_rule, defScope (top 58), defScope (top 58), [], ["len", "list", "range"], [("_law_single", 3), ("_law_some", 2), ("_law_spans", 3)], [], [], [], []⟩
theorem e_l_rule : embSs c_l_rule a_l_rule.body (defBody (top 58)) = true := by decide +kernel
theorem s_l_rule : FnScope n_l_rule p_l_rule (defScope (top 58)) := C8.fnScope_by (by decide +kernel)
def a_l_size : Df := ⟨1, 1, [], (.cons (.ifs (.cmp .eq (.sub (.var 0) (.cst (.int 0))) (.cst (.str [98, 97, 99, 107]))) (.cons (.ret (.cst (.int 3))) .nil) .nil) (.cons (.ifs (.cmp .eq (.sub (.var 0) (.cst (.int 0))) (.cst (.str [104, 101, 108, 100]))) (.cons (.ret (.sub (.var 0) (.cst (.int 2)))) .nil) .nil) (.cons (.ifs (.cmp .eq (.sub (.var 0) (.cst (.int 0))) (.cst (.str [116, 105, 109, 101, 115]))) (.cons (.ret (.bin .add (.sub (.var 0) (.cst (.int 4))) (.cst (.int 1)))) .nil) .nil) (.cons (.ifs (.cmp .eq (.sub (.var 0) (.cst (.int 0))) (.cst (.str [101, 118, 101, 114, 121]))) (.cons (.ret (.sub (.var 0) (.cst (.int 1)))) .nil) .nil) (.cons (.ret (.cst (.int 1))) .nil)))))⟩
def n_l_size : List Str := ["_law_rule_here"]
def p_l_size : List Str := ["_law_rule_here"]
def c_l_size : Ck := ⟨n_l_size, defScope (top 54), defScope (top 54), [], [], [], [], [], [], []⟩
theorem e_l_size : embSs c_l_size a_l_size.body (defBody (top 54)) = true := by decide +kernel
theorem s_l_size : FnScope n_l_size p_l_size (defScope (top 54)) := C8.fnScope_by (by decide +kernel)
def b_l_rules_0 : Sms := (.cons (.set 2 (.bin .mul (.var 2) (.bin .add (.bin .sub (.var 4) (.var 3)) (.cst (.int 1))))) .nil)
def b_l_rules_1 : Sms := (.cons (.set 7 (.call "_law_rule" (.cons (.call "_law_got" (.cons (.var 0) (.cons (.bin .add (.cst (.int 5)) (.bin .mul (.cst (.int 2)) (.var 6))) .nil))) (.cons (.call "_law_got" (.cons (.var 0) (.cons (.bin .add (.cst (.int 6)) (.bin .mul (.cst (.int 2)) (.var 6))) .nil))) (.cons (.var 1) .nil))))) (.frz 7 (.cons (.ifs (.cmp .le (.bin .mul (.var 2) (.call "_law_size" (.cons (.var 7) .nil))) (.cst (.int 400))) (.cons (.set 2 (.bin .mul (.var 2) (.call "_law_size" (.cons (.var 7) .nil)))) (.frz 2 (.cons (.app 5 (.var 7)) .nil))) .nil) .nil)))
def a_l_rules : Df := ⟨2, 8, [], (.cons (.set 2 (.cst (.int 1))) (.cons (.for_ (.tup [3, 4]) (.seq (.var 1)) b_l_rules_0) (.cons (.set 5 (.lst .nil)) (.cons (.for_ (.one 6) (.rng (.bin .mod (.bin .fdiv (.call "_law_got" (.cons (.var 0) (.cons (.cst (.int 0)) .nil))) (.cst (.int 16))) (.cst (.int 5)))) b_l_rules_1) (.cons (.ret (.var 5)) .nil)))))⟩
def n_l_rules : List Str := ["_law_script", "_law_ranges_here", "_law_heavy", "_law_low", "_law_high", "_law_rules_here", "_law_k", "_law_rule_here"]
def p_l_rules : List Str := ["_law_script", "_law_ranges_here"]
def c_l_rules : Ck := ⟨n_l_rules, defScope (top 59), defScope (top 59), [], ["range"], [("_law_got", 2), ("_law_rule", 3), ("_law_size", 1)], [], [], [], []⟩
theorem e_l_rules : embSs c_l_rules a_l_rules.body (defBody (top 59)) = true := by decide +kernel
theorem s_l_rules : FnScope n_l_rules p_l_rules (defScope (top 59)) := C8.fnScope_by (by decide +kernel)
def q_l_cells_0 : Ex := .call "_law_got" (.cons (.var 0) (.cons (.var 3) .nil))
def a_l_cells : Df := ⟨3, 4, [], (.cons (.ret (.lc [("_law_k", 3)] (.one 3) (.rng2 (.var 1) (.bi .min2 (.cons (.var 2) (.cons (.bi .len (.cons (.var 0) .nil)) .nil)))) (.cst (.bl true)) q_l_cells_0)) .nil)⟩
def n_l_cells : List Str := ["_law_script", "_law_first", "_law_last", "_law_k"]
def p_l_cells : List Str := ["_law_script", "_law_first", "_law_last"]
def c_l_cells : Ck := ⟨n_l_cells, defScope (top 52), defScope (top 52), [], ["len", "min", "range"], [("_law_got", 2)], [], [], [], []⟩
theorem e_l_cells : embSs c_l_cells a_l_cells.body (defBody (top 52)) = true := by decide +kernel
theorem s_l_cells : FnScope n_l_cells p_l_cells (defScope (top 52)) := C8.fnScope_by (by decide +kernel)
def b_l_column_0 : Sms := (.cons (.setT [1, 5] (.bi .divmod (.cons (.var 1) (.cons (.bin .add (.bin .sub (.var 4) (.var 3)) (.cst (.int 1))) .nil)))) (.cons (.app 2 (.bin .add (.var 3) (.var 5))) .nil))
def a_l_column : Df := ⟨2, 6, [], (.cons (.set 2 (.lst .nil)) (.cons (.for_ (.tup [3, 4]) (.seq (.var 0)) b_l_column_0) (.cons (.ret (.bi .tuple (.cons (.var 2) .nil))) .nil)))⟩
def n_l_column : List Str := ["_law_ranges_here", "_law_number", "_law_column_here", "_law_low", "_law_high", "_law_note"]
def p_l_column : List Str := ["_law_ranges_here", "_law_number"]
def c_l_column : Ck := ⟨n_l_column, defScope (top 68), defScope (top 68), [], ["divmod", "tuple"], [], [], [], [], []⟩
theorem e_l_column : embSs c_l_column a_l_column.body (defBody (top 68)) = true := by decide +kernel
theorem s_l_column : FnScope n_l_column p_l_column (defScope (top 68)) := C8.fnScope_by (by decide +kernel)
def a_l_one_column : Df := ⟨2, 3, [], (.cons (.set 2 (.bin .sub (.sub (.var 1) (.bin .sub (.sub (.var 0) (.cst (.int 2))) (.cst (.int 1)))) (.sub (.var 1) (.bin .sub (.sub (.var 0) (.cst (.int 1))) (.cst (.int 1)))))) (.cons (.ifs (.cmp .eq (.sub (.var 0) (.cst (.int 0))) (.cst (.str [115, 112, 97, 110]))) (.cons (.ret (.cmp .nin (.var 2) (.slcL (.var 0) (.cst (.int 3))))) .nil) .nil) (.cons (.ret (.cmp .nin (.bin .mod (.var 2) (.sub (.var 0) (.cst (.int 3)))) (.slcL (.var 0) (.cst (.int 4))))) .nil)))⟩
def n_l_one_column : List Str := ["_law_rule_here", "_law_column_here", "_law_span"]
def p_l_one_column : List Str := ["_law_rule_here", "_law_column_here"]
def c_l_one_column : Ck := ⟨n_l_one_column, defScope (top 61), defScope (top 61), [], [], [], [], [], [], []⟩
theorem e_l_one_column : embSs c_l_one_column a_l_one_column.body (defBody (top 61)) = true := by decide +kernel
theorem s_l_one_column : FnScope n_l_one_column p_l_one_column (defScope (top 61)) := C8.fnScope_by (by decide +kernel)
def a_l_two_columns : Df := ⟨3, 7, [], (.cons (.set 3 (.bin .sub (.sub (.var 0) (.cst (.int 1))) (.cst (.int 1)))) (.cons (.set 4 (.bin .sub (.sub (.sub (.var 1) (.var 2)) (.var 3)) (.sub (.sub (.var 1) (.bin .sub (.var 2) (.cst (.int 1)))) (.var 3)))) (.cons (.ifs (.cmp .eq (.sub (.var 0) (.cst (.int 0))) (.cst (.str [109, 111, 118, 101]))) (.cons (.ret (.cmp .nin (.var 4) (.slcL (.var 0) (.cst (.int 2))))) .nil) .nil) (.cons (.set 5 (.bin .sub (.sub (.var 0) (.cst (.int 2))) (.cst (.int 1)))) (.cons (.set 6 (.bin .sub (.sub (.sub (.var 1) (.var 2)) (.var 5)) (.sub (.sub (.var 1) (.var 2)) (.var 3)))) (.cons (.ret (.and (.cmp .ne (.var 4) (.cst (.int 0))) (.and (.cmp .eq (.var 6) (.bin .sub (.sub (.sub (.var 1) (.bin .sub (.var 2) (.cst (.int 1)))) (.var 5)) (.sub (.sub (.var 1) (.bin .sub (.var 2) (.cst (.int 1)))) (.var 3)))) (.cmp .inn (.var 6) (.slcL (.var 0) (.cst (.int 3))))))) .nil))))))⟩
def n_l_two_columns : List Str := ["_law_rule_here", "_law_line_here", "_law_at", "_law_a", "_law_move", "_law_b", "_law_here"]
def p_l_two_columns : List Str := ["_law_rule_here", "_law_line_here", "_law_at"]
def c_l_two_columns : Ck := ⟨n_l_two_columns, defScope (top 62), defScope (top 62), [], [], [], [], [], [], []⟩
theorem e_l_two_columns : embSs c_l_two_columns a_l_two_columns.body (defBody (top 62)) = true := by decide +kernel
theorem s_l_two_columns : FnScope n_l_two_columns p_l_two_columns (defScope (top 62)) := C8.fnScope_by (by decide +kernel)
def a_l_one_voice : Df := ⟨3, 5, [], (.cons (.ifs (.and (.cmp .eq (.sub (.var 0) (.cst (.int 0))) (.cst (.str [98, 97, 99, 107]))) (.cmp .gt (.var 2) (.cst (.int 1)))) (.cons (.set 3 (.bin .sub (.sub (.var 1) (.bin .sub (.var 2) (.cst (.int 1)))) (.sub (.var 1) (.bin .sub (.var 2) (.cst (.int 2)))))) (.cons (.set 4 (.bin .sub (.sub (.var 1) (.var 2)) (.sub (.var 1) (.bin .sub (.var 2) (.cst (.int 1)))))) (.cons (.ret (.or (.and (.cmp .gt (.var 3) (.sub (.var 0) (.cst (.int 2)))) (.cmp .ge (.var 4) (.cst (.int 0)))) (.and (.cmp .lt (.var 3) (.bin .sub (.cst (.int 0)) (.sub (.var 0) (.cst (.int 2))))) (.cmp .le (.var 4) (.cst (.int 0)))))) .nil))) .nil) (.cons (.ifs (.and (.cmp .eq (.sub (.var 0) (.cst (.int 0))) (.cst (.str [104, 101, 108, 100]))) (.cmp .ge (.var 2) (.sub (.var 0) (.cst (.int 2))))) (.cons (.ret (.cmp .eq (.cnt (.slc (.var 1) (.bin .sub (.var 2) (.sub (.var 0) (.cst (.int 2)))) (.bin .add (.var 2) (.cst (.int 1)))) (.sub (.var 1) (.var 2))) (.bin .add (.sub (.var 0) (.cst (.int 2))) (.cst (.int 1))))) .nil) .nil) (.cons (.ifs (.cmp .eq (.sub (.var 0) (.cst (.int 0))) (.cst (.str [116, 105, 109, 101, 115]))) (.cons (.ret (.and (.cmp .eq (.sub (.var 1) (.var 2)) (.sub (.var 0) (.cst (.int 2)))) (.cmp .gt (.cnt (.slcH (.var 1) (.bin .add (.var 2) (.cst (.int 1)))) (.sub (.var 0) (.cst (.int 2)))) (.sub (.var 0) (.cst (.int 4)))))) .nil) .nil) (.cons (.ifs (.and (.cmp .eq (.sub (.var 0) (.cst (.int 0))) (.cst (.str [98, 101, 103, 105, 110]))) (.cmp .eq (.var 2) (.cst (.int 0)))) (.cons (.ret (.cmp .nin (.sub (.var 1) (.cst (.int 0))) (.slcL (.var 0) (.cst (.int 2))))) .nil) .nil) (.cons (.ret (.cst (.bl false))) .nil)))))⟩
def n_l_one_voice : List Str := ["_law_rule_here", "_law_notes", "_law_at", "_law_leap", "_law_move"]
def p_l_one_voice : List Str := ["_law_rule_here", "_law_notes", "_law_at"]
def c_l_one_voice : Ck := ⟨n_l_one_voice, defScope (top 63), defScope (top 63), [], [], [], [], [], [], []⟩
theorem e_l_one_voice : embSs c_l_one_voice a_l_one_voice.body (defBody (top 63)) = true := by decide +kernel
theorem s_l_one_voice : FnScope n_l_one_voice p_l_one_voice (defScope (top 63)) := C8.fnScope_by (by decide +kernel)
def q_l_broken_0 : Ex := .sub (.var 3) (.bin .sub (.sub (.var 0) (.cst (.int 1))) (.cst (.int 1)))
def a_l_broken : Df := ⟨3, 4, [], (.cons (.ifs (.or (.cmp .eq (.sub (.var 0) (.cst (.int 0))) (.cst (.str [115, 112, 97, 110]))) (.cmp .eq (.sub (.var 0) (.cst (.int 0))) (.cst (.str [99, 108, 111, 99, 107])))) (.cons (.ret (.call "_law_one_column" (.cons (.var 0) (.cons (.sub (.var 1) (.var 2)) .nil)))) .nil) .nil) (.cons (.ifs (.cmp .eq (.sub (.var 0) (.cst (.int 0))) (.cst (.str [101, 118, 101, 114, 121]))) (.cons (.ret (.and (.cmp .eq (.bin .mod (.var 2) (.sub (.var 0) (.cst (.int 1)))) (.sub (.var 0) (.cst (.int 2)))) (.call "_law_one_column" (.cons (.slcL (.var 0) (.cst (.int 3))) (.cons (.sub (.var 1) (.var 2)) .nil))))) .nil) .nil) (.cons (.ifs (.or (.cmp .eq (.sub (.var 0) (.cst (.int 0))) (.cst (.str [109, 111, 118, 101]))) (.cmp .eq (.sub (.var 0) (.cst (.int 0))) (.cst (.str [97, 108, 105, 107, 101])))) (.cons (.ret (.and (.cmp .gt (.var 2) (.cst (.int 0))) (.call "_law_two_columns" (.cons (.var 0) (.cons (.var 1) (.cons (.var 2) .nil)))))) .nil) .nil) (.cons (.ret (.call "_law_one_voice" (.cons (.var 0) (.cons (.lc [("_law_column_here", 3)] (.one 3) (.seq (.slcH (.var 1) (.bin .add (.var 2) (.cst (.int 1))))) (.cst (.bl true)) q_l_broken_0) (.cons (.var 2) .nil))))) .nil))))⟩
def n_l_broken : List Str := ["_law_rule_here", "_law_line_here", "_law_at", "_law_column_here"]
def p_l_broken : List Str := ["_law_rule_here", "_law_line_here", "_law_at"]
def c_l_broken : Ck := ⟨n_l_broken, defScope (top 64), defScope (top 64), [], [], [("_law_one_column", 2), ("_law_two_columns", 3), ("_law_one_voice", 3)], [], [], [], []⟩
theorem e_l_broken : embSs c_l_broken a_l_broken.body (defBody (top 64)) = true := by decide +kernel
theorem s_l_broken : FnScope n_l_broken p_l_broken (defScope (top 64)) := C8.fnScope_by (by decide +kernel)
def b_l_row_at_0 : Sms := (.cons (.ifs (.or (.cmp .lt (.sub (.sub (.var 2) (.var 3)) (.var 4)) (.sub (.sub (.var 0) (.var 4)) (.cst (.int 0)))) (.cmp .gt (.sub (.sub (.var 2) (.var 3)) (.var 4)) (.sub (.sub (.var 0) (.var 4)) (.cst (.int 1))))) (.cons (.ret (.var 4)) .nil) .nil) .nil)
def b_l_row_at_1 : Sms := (.cons (.ifs (.call "_law_broken" (.cons (.sub (.var 1) (.var 5)) (.cons (.var 2) (.cons (.var 3) .nil)))) (.cons (.ret (.bin .add (.bi .len (.cons (.var 0) .nil)) (.var 5))) .nil) .nil) .nil)
def a_l_row_at : Df := ⟨4, 6, [], (.cons (.for_ (.one 4) (.rng (.bi .len (.cons (.var 0) .nil))) b_l_row_at_0) (.cons (.for_ (.one 5) (.rng (.bi .len (.cons (.var 1) .nil))) b_l_row_at_1) (.cons (.ret (.cst .non)) .nil)))⟩
def n_l_row_at : List Str := ["_law_ranges_here", "_law_rules_here", "_law_line_here", "_law_at", "_law_voice", "_law_k"]
def p_l_row_at : List Str := ["_law_ranges_here", "_law_rules_here", "_law_line_here", "_law_at"]
def c_l_row_at : Ck := ⟨n_l_row_at, defScope (top 66), defScope (top 66), [], ["len", "range"], [("_law_broken", 3)], [], [], [], []⟩
theorem e_l_row_at : embSs c_l_row_at a_l_row_at.body (defBody (top 66)) = true := by decide +kernel
theorem s_l_row_at : FnScope n_l_row_at p_l_row_at (defScope (top 66)) := C8.fnScope_by (by decide +kernel)
def b_l_line_0 : Sms := (.cons (.set 3 (.bin .mul (.var 3) (.bin .add (.bin .sub (.var 5) (.var 4)) (.cst (.int 1))))) .nil)
def b_l_line_1 : Sms := (.cons (.set 9 (.bin .add (.var 6) (.lst (.cons (.call "_law_column" (.cons (.var 1) (.cons (.bin .mod (.bin .add (.var 7) (.var 8)) (.var 3)) .nil))) .nil)))) (.cons (.ifs (.or (.cmp .eq (.bin .mod (.bin .fdiv (.var 7) (.var 3)) (.cst (.int 5))) (.cst (.int 4))) (.cmp .is (.call "_law_row_at" (.cons (.var 1) (.cons (.var 2) (.cons (.var 9) (.cons (.bi .len (.cons (.var 6) .nil)) .nil))))) (.cst .non))) (.cons (.brk) .nil) .nil) .nil))
def b_l_line_2 : Sms := (.cons (.for_ (.one 8) (.rng (.bi .min2 (.cons (.var 3) (.cons (.cst (.int 8)) .nil)))) b_l_line_1) (.cons (.mov 6 9) .nil))
def a_l_line : Df := ⟨3, 13, [], (.cons (.set 3 (.cst (.int 1))) (.cons (.for_ (.tup [4, 5]) (.seq (.var 1)) b_l_line_0) (.cons (.set 6 (.lst .nil)) (.cons (.for_ (.one 7) (.seq (.call "_law_cells" (.cons (.var 0) (.cons (.cst (.int 14)) (.cons (.cst (.int 44)) .nil))))) b_l_line_2) (.cons (.set 7 (.call "_law_got" (.cons (.var 0) (.cons (.cst (.int 13)) .nil)))) (.cons (.ifs (.and (.cmp .eq (.bin .mod (.var 7) (.cst (.int 2))) (.cst (.int 1))) (.cmp .ne (.var 6) (.lst .nil))) (.cons (.set 10 (.bin .mod (.bin .fdiv (.var 7) (.cst (.int 2))) (.bi .len (.cons (.var 6) .nil)))) (.cons (.set 11 (.bi .list (.cons (.sub (.var 6) (.var 10)) .nil))) (.cons (.set 12 (.bin .mod (.bin .fdiv (.var 7) (.cst (.int 82))) (.bi .len (.cons (.var 11) .nil)))) (.cons (.put 11 (.var 12) (.bin .add (.sub (.var 11) (.var 12)) (.sub (.lst (.cons (.cst (.int 1)) (.cons (.neg (.cst (.int 1))) (.cons (.cst (.int 2)) (.cons (.neg (.cst (.int 2))) (.cons (.cst (.int 3)) (.cons (.neg (.cst (.int 3))) .nil))))))) (.bin .mod (.bin .fdiv (.var 7) (.cst (.int 4))) (.cst (.int 6)))))) (.cons (.put 6 (.var 10) (.bi .tuple (.cons (.var 11) .nil))) .nil))))) .nil) (.cons (.ret (.var 6)) .nil)))))))⟩
def n_l_line : List Str := ["_law_script", "_law_ranges_here", "_law_rules_here", "_law_many", "_law_low", "_law_high", "_law_line_here", "_law_cell", "_law_turn", "_law_longer", "_law_at", "_law_column_here", "_law_voice"]
def p_l_line : List Str := ["_law_script", "_law_ranges_here", "_law_rules_here"]
def c_l_line : Ck := ⟨n_l_line, defScope (top 69), defScope (top 69), [], ["len", "list", "min", "range", "tuple"], [("_law_cells", 3), ("_law_column", 2), ("_law_row_at", 4), ("_law_got", 2)], [], [], [], []⟩
theorem e_l_line : embSs c_l_line a_l_line.body (defBody (top 69)) = true := by decide +kernel
theorem s_l_line : FnScope n_l_line p_l_line (defScope (top 69)) := C8.fnScope_by (by decide +kernel)
def b_is_number_0 : Sms := (.cons (.ifs (.cmp .nin (.var 2) (.cst (.str [48, 49, 50, 51, 52, 53, 54, 55, 56, 57]))) (.cons (.ret (.cst (.bl false))) .nil) .nil) .nil)
def a_is_number : Df := ⟨1, 3, [], (.cons (.set 1 (.var 0)) (.frz 1 (.cons (.ifs (.cmp .eq (.slcH (.var 0) (.cst (.int 1))) (.cst (.str [45]))) (.cons (.set 1 (.slcL (.var 0) (.cst (.int 1)))) (.frz 1 (.cons (.ifs (.cmp .eq (.var 1) (.cst (.str [48]))) (.cons (.ret (.cst (.bl false))) .nil) .nil) .nil))) .nil) (.cons (.ifs (.or (.cmp .eq (.var 1) (.cst (.str []))) (.cmp .gt (.bi .len (.cons (.var 1) .nil)) (.cst (.int 40)))) (.cons (.ret (.cst (.bl false))) .nil) .nil) (.cons (.ifs (.and (.cmp .eq (.sub (.var 1) (.cst (.int 0))) (.cst (.str [48]))) (.cmp .gt (.bi .len (.cons (.var 1) .nil)) (.cst (.int 1)))) (.cons (.ret (.cst (.bl false))) .nil) .nil) (.cons (.for_ (.one 2) (.seq (.var 1)) b_is_number_0) (.cons (.ret (.cst (.bl true))) .nil)))))))⟩
def n_is_number : List Str := ["word", "figures", "sign"]
def p_is_number : List Str := ["word"]
def c_is_number : Ck := ⟨n_is_number, defScope (top 33), defScope (top 33), [("FIGURES", .str "0123456789"), ("MOST_words", .int 40)], ["len"], [], [], [], [], []⟩
theorem e_is_number : embSs c_is_number a_is_number.body (defBody (top 33)) = true := by decide +kernel
theorem s_is_number : FnScope n_is_number p_is_number (defScope (top 33)) := C8.fnScope_by (by decide +kernel)
def a_read_range : Df := ⟨2, 3, [], (.cons (.set 2 (.m1 .split (.var 0) (.cst (.str [32])))) (.frz 2 (.cons (.ifs (.or (.cmp .ne (.bi .len (.cons (.var 2) .nil)) (.cst (.int 3))) (.or (.nt (.call "is_number" (.cons (.sub (.var 2) (.cst (.int 1))) .nil))) (.nt (.call "is_number" (.cons (.sub (.var 2) (.cst (.int 2))) .nil))))) (.cons (.nev) .nil) .nil) (.cons (.ifs (.cmp .gt (.bi .int (.cons (.sub (.var 2) (.cst (.int 1))) .nil)) (.bi .int (.cons (.sub (.var 2) (.cst (.int 2))) .nil))) (.cons (.nev) .nil) .nil) (.cons (.ret (.tup (.cons (.bi .int (.cons (.sub (.var 2) (.cst (.int 1))) .nil)) (.cons (.bi .int (.cons (.sub (.var 2) (.cst (.int 2))) .nil)) .nil)))) .nil)))))⟩
def n_read_range : List Str := ["text", "row", "words"]
def p_read_range : List Str := ["text", "row"]
def c_read_range : Ck := ⟨n_read_range, defScope (top 47), defScope (top 47), [], ["int", "len"], [("is_number", 1)], [], [], [], []⟩
theorem e_read_range : embSs c_read_range a_read_range.body (defBody (top 47)) = true := by decide +kernel
theorem s_read_range : FnScope n_read_range p_read_range (defScope (top 47)) := C8.fnScope_by (by decide +kernel)
def a_look_at : Df := ⟨2, 2, [], (.cons (.ifs (.nt (.var 0)) (.cons (.nev) .nil) .nil) .nil)⟩
def n_look_at : List Str := ["good", "row"]
def p_look_at : List Str := ["good", "row"]
def c_look_at : Ck := ⟨n_look_at, defScope (top 38), defScope (top 38), [], [], [], [], [], [], []⟩
theorem e_look_at : embSs c_look_at a_look_at.body (defBody (top 38)) = true := by decide +kernel
theorem s_look_at : FnScope n_look_at p_look_at (defScope (top 38)) := C8.fnScope_by (by decide +kernel)
def b_numbers_of_0 : Sms := (.cons (.ifs (.nt (.call "is_number" (.cons (.var 3) .nil))) (.cons (.nev) .nil) .nil) (.cons (.app 2 (.bi .int (.cons (.var 3) .nil))) .nil))
def a_numbers_of : Df := ⟨2, 4, [], (.cons (.set 2 (.lst .nil)) (.cons (.for_ (.one 3) (.seq (.var 0)) b_numbers_of_0) (.cons (.ret (.var 2)) .nil)))⟩
def n_numbers_of : List Str := ["words", "row", "found", "word"]
def p_numbers_of : List Str := ["words", "row"]
def c_numbers_of : Ck := ⟨n_numbers_of, defScope (top 36), defScope (top 36), [], ["int"], [("is_number", 1)], [], [], [], []⟩
theorem e_numbers_of : embSs c_numbers_of a_numbers_of.body (defBody (top 36)) = true := by decide +kernel
theorem s_numbers_of : FnScope n_numbers_of p_numbers_of (defScope (top 36)) := C8.fnScope_by (by decide +kernel)
def a_some_of : Df := ⟨2, 2, [], (.cons (.ifs (.or (.cmp .lt (.bi .len (.cons (.var 0) .nil)) (.cst (.int 1))) (.cmp .gt (.bi .len (.cons (.var 0) .nil)) (.cst (.int 12)))) (.cons (.nev) .nil) .nil) (.cons (.ret (.bi .list (.cons (.var 0) .nil))) .nil))⟩
def n_some_of : List Str := ["numbers", "row"]
def p_some_of : List Str := ["numbers", "row"]
def c_some_of : Ck := ⟨n_some_of, defScope (top 37), defScope (top 37), [("MOST_rulereader", .int 12)], ["len", "list"], [], [], [], [], []⟩
theorem e_some_of : embSs c_some_of a_some_of.body (defBody (top 37)) = true := by decide +kernel
theorem s_some_of : FnScope n_some_of p_some_of (defScope (top 37)) := C8.fnScope_by (by decide +kernel)
def a_Rule_init : Df := ⟨2, 2, [], (.cons (.fst ["Rule", "Span", "Clock", "Begin", "Close", "Back", "Held", "Times", "Every", "Move", "Alike"] "told" (.var 1)) .nil)⟩
def n_Rule_init : List Str := ["self", "told"]
def p_Rule_init : List Str := ["self", "told"]
def c_Rule_init : Ck := ⟨n_Rule_init, defScope (mth 2 0), defScope (mth 2 0), [], [], [], [("Rule", "told"), ("Span", "told"), ("Clock", "told"), ("Begin", "told"), ("Close", "told"), ("Back", "told"), ("Held", "told"), ("Times", "told"), ("Every", "told"), ("Move", "told"), ("Alike", "told")], [], [], []⟩
theorem e_Rule_init : embIs c_Rule_init a_Rule_init.body (defBody (mth 2 0)) = true := by decide +kernel
theorem s_Rule_init : FnScope n_Rule_init p_Rule_init (defScope (mth 2 0)) := C8.fnScope_by (by decide +kernel)
def a_Span_init : Df := ⟨5, 5, [], (.cons (.ini "Rule" (.cons (.var 1) .nil)) (.cons (.fst ["Span"] "one" (.var 2)) (.cons (.fst ["Span"] "other" (.var 3)) (.cons (.fst ["Span"] "some" (.var 4)) .nil))))⟩
def n_Span_init : List Str := ["self", "told", "one", "other", "some"]
def p_Span_init : List Str := ["self", "told", "one", "other", "some"]
def c_Span_init : Ck := ⟨n_Span_init, defScope (mth 3 0), defScope (mth 3 0), [], [], [], [("Span", "one"), ("Span", "other"), ("Span", "some")], [], [], [("Rule", 1)]⟩
theorem e_Span_init : embIs c_Span_init a_Span_init.body (defBody (mth 3 0)) = true := by decide +kernel
theorem s_Span_init : FnScope n_Span_init p_Span_init (defScope (mth 3 0)) := C8.fnScope_by (by decide +kernel)
def a_Clock_init : Df := ⟨6, 6, [], (.cons (.ini "Rule" (.cons (.var 1) .nil)) (.cons (.fst ["Clock"] "one" (.var 2)) (.cons (.fst ["Clock"] "other" (.var 3)) (.cons (.fst ["Clock"] "beat" (.var 4)) (.cons (.fst ["Clock"] "some" (.var 5)) .nil)))))⟩
def n_Clock_init : List Str := ["self", "told", "one", "other", "beat", "some"]
def p_Clock_init : List Str := ["self", "told", "one", "other", "beat", "some"]
def c_Clock_init : Ck := ⟨n_Clock_init, defScope (mth 4 0), defScope (mth 4 0), [], [], [], [("Clock", "one"), ("Clock", "other"), ("Clock", "beat"), ("Clock", "some")], [], [], [("Rule", 1)]⟩
theorem e_Clock_init : embIs c_Clock_init a_Clock_init.body (defBody (mth 4 0)) = true := by decide +kernel
theorem s_Clock_init : FnScope n_Clock_init p_Clock_init (defScope (mth 4 0)) := C8.fnScope_by (by decide +kernel)
def a_column_rule : Df := ⟨5, 7, [], (.cons (.exp (.call "look_at" (.cons (.cmp .gt (.bi .len (.cons (.var 2) .nil)) (.cst (.int 2))) (.cons (.var 4) .nil)))) (.cons (.set 5 (.sub (.var 2) (.cst (.int 0)))) (.frz 5 (.cons (.set 6 (.sub (.var 2) (.cst (.int 1)))) (.frz 6 (.cons (.exp (.call "look_at" (.cons (.and (.chn .le .le (.cst (.int 1)) (.var 5) (.var 3)) (.chn .le .le (.cst (.int 1)) (.var 6) (.var 3))) (.cons (.var 4) .nil)))) (.cons (.ifs (.cmp .eq (.var 1) (.cst (.str [115, 112, 97, 110]))) (.cons (.ret (.mk "Span" (.cons (.var 0) (.cons (.bin .sub (.var 5) (.cst (.int 1))) (.cons (.bin .sub (.var 6) (.cst (.int 1))) (.cons (.call "some_of" (.cons (.slcL (.var 2) (.cst (.int 2))) (.cons (.var 4) .nil))) .nil)))))) .nil) .nil) (.cons (.exp (.call "look_at" (.cons (.cmp .ge (.sub (.var 2) (.cst (.int 2))) (.cst (.int 1))) (.cons (.var 4) .nil)))) (.cons (.ret (.mk "Clock" (.cons (.var 0) (.cons (.bin .sub (.var 5) (.cst (.int 1))) (.cons (.bin .sub (.var 6) (.cst (.int 1))) (.cons (.sub (.var 2) (.cst (.int 2))) (.cons (.call "some_of" (.cons (.slcL (.var 2) (.cst (.int 3))) (.cons (.var 4) .nil))) .nil))))))) .nil)))))))))⟩
def n_column_rule : List Str := ["text", "kind", "numbers", "voices", "row", "one", "other"]
def p_column_rule : List Str := ["text", "kind", "numbers", "voices", "row"]
def c_column_rule : Ck := ⟨n_column_rule, defScope (top 39), defScope (top 39), [], ["len"], [("look_at", 2), ("some_of", 2)], [], [], [("Span", 4), ("Clock", 5)], []⟩
theorem e_column_rule : embSs c_column_rule a_column_rule.body (defBody (top 39)) = true := by decide +kernel
theorem s_column_rule : FnScope n_column_rule p_column_rule (defScope (top 39)) := C8.fnScope_by (by decide +kernel)
def a_Every_init : Df := ⟨5, 5, [], (.cons (.ini "Rule" (.cons (.var 1) .nil)) (.cons (.fst ["Every"] "beat" (.var 2)) (.cons (.fst ["Every"] "at" (.var 3)) (.cons (.fst ["Every"] "rule" (.var 4)) .nil))))⟩
def n_Every_init : List Str := ["self", "told", "beat", "at", "rule"]
def p_Every_init : List Str := ["self", "told", "beat", "at", "rule"]
def c_Every_init : Ck := ⟨n_Every_init, defScope (mth 26 0), defScope (mth 26 0), [], [], [], [("Every", "beat"), ("Every", "at"), ("Every", "rule")], [], [], [("Rule", 1)]⟩
theorem e_Every_init : embIs c_Every_init a_Every_init.body (defBody (mth 26 0)) = true := by decide +kernel
theorem s_Every_init : FnScope n_Every_init p_Every_init (defScope (mth 26 0)) := C8.fnScope_by (by decide +kernel)
def a_every_rule : Df := ⟨4, 7, [], (.cons (.exp (.call "look_at" (.cons (.and (.cmp .gt (.bi .len (.cons (.var 1) .nil)) (.cst (.int 3))) (.cmp .inn (.sub (.var 1) (.cst (.int 3))) (.tup (.cons (.cst (.str [115, 112, 97, 110])) (.cons (.cst (.str [99, 108, 111, 99, 107])) .nil))))) (.cons (.var 3) .nil)))) (.cons (.setT [4, 5] (.call "numbers_of" (.cons (.slc (.var 1) (.cst (.int 1)) (.cst (.int 3))) (.cons (.var 3) .nil)))) (.cons (.exp (.call "look_at" (.cons (.and (.cmp .ge (.var 4) (.cst (.int 1))) (.chn .le .lt (.cst (.int 0)) (.var 5) (.var 4))) (.cons (.var 3) .nil)))) (.cons (.set 6 (.call "column_rule" (.cons (.m1 .join (.cst (.str [32])) (.slcL (.var 1) (.cst (.int 3)))) (.cons (.sub (.var 1) (.cst (.int 3))) (.cons (.call "numbers_of" (.cons (.slcL (.var 1) (.cst (.int 4))) (.cons (.var 3) .nil))) (.cons (.var 2) (.cons (.var 3) .nil))))))) (.frz 6 (.cons (.ret (.mk "Every" (.cons (.var 0) (.cons (.var 4) (.cons (.var 5) (.cons (.var 6) .nil)))))) .nil))))))⟩
def n_every_rule : List Str := ["text", "words", "voices", "row", "beat", "at", "inner"]
def p_every_rule : List Str := ["text", "words", "voices", "row"]
def c_every_rule : Ck := ⟨n_every_rule, defScope (top 42), defScope (top 42), [], ["len"], [("look_at", 2), ("numbers_of", 2), ("column_rule", 5)], [], [], [("Every", 4)], []⟩
theorem e_every_rule : embSs c_every_rule a_every_rule.body (defBody (top 42)) = true := by decide +kernel
theorem s_every_rule : FnScope n_every_rule p_every_rule (defScope (top 42)) := C8.fnScope_by (by decide +kernel)
def a_Alike_init : Df := ⟨5, 5, [], (.cons (.ini "Rule" (.cons (.var 1) .nil)) (.cons (.fst ["Alike"] "one" (.var 2)) (.cons (.fst ["Alike"] "other" (.var 3)) (.cons (.fst ["Alike"] "some" (.var 4)) .nil))))⟩
def n_Alike_init : List Str := ["self", "told", "one", "other", "some"]
def p_Alike_init : List Str := ["self", "told", "one", "other", "some"]
def c_Alike_init : Ck := ⟨n_Alike_init, defScope (mth 29 0), defScope (mth 29 0), [], [], [], [("Alike", "one"), ("Alike", "other"), ("Alike", "some")], [], [], [("Rule", 1)]⟩
theorem e_Alike_init : embIs c_Alike_init a_Alike_init.body (defBody (mth 29 0)) = true := by decide +kernel
theorem s_Alike_init : FnScope n_Alike_init p_Alike_init (defScope (mth 29 0)) := C8.fnScope_by (by decide +kernel)
def a_alike_rule : Df := ⟨4, 6, [], (.cons (.exp (.call "look_at" (.cons (.cmp .gt (.bi .len (.cons (.var 1) .nil)) (.cst (.int 2))) (.cons (.var 3) .nil)))) (.cons (.set 4 (.sub (.var 1) (.cst (.int 0)))) (.frz 4 (.cons (.set 5 (.sub (.var 1) (.cst (.int 1)))) (.frz 5 (.cons (.exp (.call "look_at" (.cons (.and (.chn .le .le (.cst (.int 1)) (.var 4) (.var 2)) (.chn .le .le (.cst (.int 1)) (.var 5) (.var 2))) (.cons (.var 3) .nil)))) (.cons (.ret (.mk "Alike" (.cons (.var 0) (.cons (.bin .sub (.var 4) (.cst (.int 1))) (.cons (.bin .sub (.var 5) (.cst (.int 1))) (.cons (.call "some_of" (.cons (.slcL (.var 1) (.cst (.int 2))) (.cons (.var 3) .nil))) .nil)))))) .nil)))))))⟩
def n_alike_rule : List Str := ["text", "numbers", "voices", "row", "one", "other"]
def p_alike_rule : List Str := ["text", "numbers", "voices", "row"]
def c_alike_rule : Ck := ⟨n_alike_rule, defScope (top 40), defScope (top 40), [], ["len"], [("look_at", 2), ("some_of", 2)], [], [], [("Alike", 4)], []⟩
theorem e_alike_rule : embSs c_alike_rule a_alike_rule.body (defBody (top 40)) = true := by decide +kernel
theorem s_alike_rule : FnScope n_alike_rule p_alike_rule (defScope (top 40)) := C8.fnScope_by (by decide +kernel)
def a_Move_init : Df := ⟨4, 4, [], (.cons (.ini "Rule" (.cons (.var 1) .nil)) (.cons (.fst ["Move"] "voice" (.var 2)) (.cons (.fst ["Move"] "some" (.var 3)) .nil)))⟩
def n_Move_init : List Str := ["self", "told", "voice", "some"]
def p_Move_init : List Str := ["self", "told", "voice", "some"]
def c_Move_init : Ck := ⟨n_Move_init, defScope (mth 28 0), defScope (mth 28 0), [], [], [], [("Move", "voice"), ("Move", "some")], [], [], [("Rule", 1)]⟩
theorem e_Move_init : embIs c_Move_init a_Move_init.body (defBody (mth 28 0)) = true := by decide +kernel
theorem s_Move_init : FnScope n_Move_init p_Move_init (defScope (mth 28 0)) := C8.fnScope_by (by decide +kernel)
def a_Begin_init : Df := ⟨4, 4, [], (.cons (.ini "Rule" (.cons (.var 1) .nil)) (.cons (.fst ["Begin"] "voice" (.var 2)) (.cons (.fst ["Begin"] "some" (.var 3)) .nil)))⟩
def n_Begin_init : List Str := ["self", "told", "voice", "some"]
def p_Begin_init : List Str := ["self", "told", "voice", "some"]
def c_Begin_init : Ck := ⟨n_Begin_init, defScope (mth 5 0), defScope (mth 5 0), [], [], [], [("Begin", "voice"), ("Begin", "some")], [], [], [("Rule", 1)]⟩
theorem e_Begin_init : embIs c_Begin_init a_Begin_init.body (defBody (mth 5 0)) = true := by decide +kernel
theorem s_Begin_init : FnScope n_Begin_init p_Begin_init (defScope (mth 5 0)) := C8.fnScope_by (by decide +kernel)
def a_Close_init : Df := ⟨4, 4, [], (.cons (.ini "Rule" (.cons (.var 1) .nil)) (.cons (.fst ["Close"] "voice" (.var 2)) (.cons (.fst ["Close"] "some" (.var 3)) .nil)))⟩
def n_Close_init : List Str := ["self", "told", "voice", "some"]
def p_Close_init : List Str := ["self", "told", "voice", "some"]
def c_Close_init : Ck := ⟨n_Close_init, defScope (mth 6 0), defScope (mth 6 0), [], [], [], [("Close", "voice"), ("Close", "some")], [], [], [("Rule", 1)]⟩
theorem e_Close_init : embIs c_Close_init a_Close_init.body (defBody (mth 6 0)) = true := by decide +kernel
theorem s_Close_init : FnScope n_Close_init p_Close_init (defScope (mth 6 0)) := C8.fnScope_by (by decide +kernel)
def a_Times_init : Df := ⟨6, 6, [], (.cons (.ini "Rule" (.cons (.var 1) .nil)) (.cons (.fst ["Times"] "voice" (.var 2)) (.cons (.fst ["Times"] "note" (.var 3)) (.cons (.fst ["Times"] "low" (.var 4)) (.cons (.fst ["Times"] "high" (.var 5)) .nil)))))⟩
def n_Times_init : List Str := ["self", "told", "voice", "note", "low", "high"]
def p_Times_init : List Str := ["self", "told", "voice", "note", "low", "high"]
def c_Times_init : Ck := ⟨n_Times_init, defScope (mth 25 0), defScope (mth 25 0), [], [], [], [("Times", "voice"), ("Times", "note"), ("Times", "low"), ("Times", "high")], [], [], [("Rule", 1)]⟩
theorem e_Times_init : embIs c_Times_init a_Times_init.body (defBody (mth 25 0)) = true := by decide +kernel
theorem s_Times_init : FnScope n_Times_init p_Times_init (defScope (mth 25 0)) := C8.fnScope_by (by decide +kernel)
def a_Back_init : Df := ⟨4, 4, [], (.cons (.ini "Rule" (.cons (.var 1) .nil)) (.cons (.fst ["Back"] "voice" (.var 2)) (.cons (.fst ["Back"] "far" (.var 3)) .nil)))⟩
def n_Back_init : List Str := ["self", "told", "voice", "far"]
def p_Back_init : List Str := ["self", "told", "voice", "far"]
def c_Back_init : Ck := ⟨n_Back_init, defScope (mth 23 0), defScope (mth 23 0), [], [], [], [("Back", "voice"), ("Back", "far")], [], [], [("Rule", 1)]⟩
theorem e_Back_init : embIs c_Back_init a_Back_init.body (defBody (mth 23 0)) = true := by decide +kernel
theorem s_Back_init : FnScope n_Back_init p_Back_init (defScope (mth 23 0)) := C8.fnScope_by (by decide +kernel)
def a_Held_init : Df := ⟨4, 4, [], (.cons (.ini "Rule" (.cons (.var 1) .nil)) (.cons (.fst ["Held"] "voice" (.var 2)) (.cons (.fst ["Held"] "most" (.var 3)) .nil)))⟩
def n_Held_init : List Str := ["self", "told", "voice", "most"]
def p_Held_init : List Str := ["self", "told", "voice", "most"]
def c_Held_init : Ck := ⟨n_Held_init, defScope (mth 24 0), defScope (mth 24 0), [], [], [], [("Held", "voice"), ("Held", "most")], [], [], [("Rule", 1)]⟩
theorem e_Held_init : embIs c_Held_init a_Held_init.body (defBody (mth 24 0)) = true := by decide +kernel
theorem s_Held_init : FnScope n_Held_init p_Held_init (defScope (mth 24 0)) := C8.fnScope_by (by decide +kernel)
def a_voice_rule : Df := ⟨5, 7, [], (.cons (.exp (.call "look_at" (.cons (.and (.cmp .gt (.bi .len (.cons (.var 2) .nil)) (.cst (.int 1))) (.chn .le .le (.cst (.int 1)) (.sub (.var 2) (.cst (.int 0))) (.var 3))) (.cons (.var 4) .nil)))) (.cons (.set 5 (.bin .sub (.sub (.var 2) (.cst (.int 0))) (.cst (.int 1)))) (.cons (.set 6 (.slcL (.var 2) (.cst (.int 1)))) (.frz 6 (.cons (.ifs (.cmp .eq (.var 1) (.cst (.str [109, 111, 118, 101]))) (.cons (.ret (.mk "Move" (.cons (.var 0) (.cons (.var 5) (.cons (.call "some_of" (.cons (.var 6) (.cons (.var 4) .nil))) .nil))))) .nil) .nil) (.cons (.ifs (.cmp .eq (.var 1) (.cst (.str [98, 101, 103, 105, 110]))) (.cons (.ret (.mk "Begin" (.cons (.var 0) (.cons (.var 5) (.cons (.call "some_of" (.cons (.var 6) (.cons (.var 4) .nil))) .nil))))) .nil) .nil) (.cons (.ifs (.cmp .eq (.var 1) (.cst (.str [99, 108, 111, 115, 101]))) (.cons (.ret (.mk "Close" (.cons (.var 0) (.cons (.var 5) (.cons (.call "some_of" (.cons (.var 6) (.cons (.var 4) .nil))) .nil))))) .nil) .nil) (.cons (.ifs (.cmp .eq (.var 1) (.cst (.str [116, 105, 109, 101, 115]))) (.cons (.exp (.call "look_at" (.cons (.and (.cmp .eq (.bi .len (.cons (.var 6) .nil)) (.cst (.int 3))) (.and (.cmp .ge (.sub (.var 6) (.cst (.int 1))) (.cst (.int 0))) (.cmp .ge (.sub (.var 6) (.cst (.int 2))) (.cst (.int 0))))) (.cons (.var 4) .nil)))) (.cons (.ret (.mk "Times" (.cons (.var 0) (.cons (.var 5) (.cons (.sub (.var 6) (.cst (.int 0))) (.cons (.sub (.var 6) (.cst (.int 1))) (.cons (.sub (.var 6) (.cst (.int 2))) .nil))))))) .nil)) .nil) (.cons (.exp (.call "look_at" (.cons (.cmp .eq (.bi .len (.cons (.var 6) .nil)) (.cst (.int 1))) (.cons (.var 4) .nil)))) (.cons (.ifs (.cmp .eq (.var 1) (.cst (.str [98, 97, 99, 107]))) (.cons (.exp (.call "look_at" (.cons (.cmp .ge (.sub (.var 6) (.cst (.int 0))) (.cst (.int 0))) (.cons (.var 4) .nil)))) (.cons (.ret (.mk "Back" (.cons (.var 0) (.cons (.var 5) (.cons (.sub (.var 6) (.cst (.int 0))) .nil))))) .nil)) .nil) (.cons (.exp (.call "look_at" (.cons (.and (.cmp .eq (.var 1) (.cst (.str [104, 101, 108, 100]))) (.cmp .ge (.sub (.var 6) (.cst (.int 0))) (.cst (.int 1)))) (.cons (.var 4) .nil)))) (.cons (.ret (.mk "Held" (.cons (.var 0) (.cons (.var 5) (.cons (.sub (.var 6) (.cst (.int 0))) .nil))))) .nil))))))))))))⟩
def n_voice_rule : List Str := ["text", "kind", "numbers", "voices", "row", "voice", "rest"]
def p_voice_rule : List Str := ["text", "kind", "numbers", "voices", "row"]
def c_voice_rule : Ck := ⟨n_voice_rule, defScope (top 41), defScope (top 41), [], ["len"], [("look_at", 2), ("some_of", 2)], [], [], [("Move", 3), ("Begin", 3), ("Close", 3), ("Times", 5), ("Back", 3), ("Held", 3)], []⟩
theorem e_voice_rule : embSs c_voice_rule a_voice_rule.body (defBody (top 41)) = true := by decide +kernel
theorem s_voice_rule : FnScope n_voice_rule p_voice_rule (defScope (top 41)) := C8.fnScope_by (by decide +kernel)
def a_read_rule : Df := ⟨3, 6, [(.int 0)], (.cons (.set 3 (.m1 .split (.var 0) (.cst (.str [32])))) (.frz 3 (.cons (.set 4 (.sub (.var 3) (.cst (.int 0)))) (.frz 4 (.cons (.ifs (.cmp .eq (.var 4) (.cst (.str [101, 118, 101, 114, 121]))) (.cons (.ret (.call "every_rule" (.cons (.var 0) (.cons (.var 3) (.cons (.var 1) (.cons (.var 2) .nil)))))) .nil) .nil) (.cons (.set 5 (.call "numbers_of" (.cons (.slcL (.var 3) (.cst (.int 1))) (.cons (.var 2) .nil)))) (.frz 5 (.cons (.ifs (.or (.cmp .eq (.var 4) (.cst (.str [115, 112, 97, 110]))) (.cmp .eq (.var 4) (.cst (.str [99, 108, 111, 99, 107])))) (.cons (.ret (.call "column_rule" (.cons (.var 0) (.cons (.var 4) (.cons (.var 5) (.cons (.var 1) (.cons (.var 2) .nil))))))) .nil) .nil) (.cons (.ifs (.cmp .eq (.var 4) (.cst (.str [97, 108, 105, 107, 101]))) (.cons (.ret (.call "alike_rule" (.cons (.var 0) (.cons (.var 5) (.cons (.var 1) (.cons (.var 2) .nil)))))) .nil) .nil) (.cons (.ret (.call "voice_rule" (.cons (.var 0) (.cons (.var 4) (.cons (.var 5) (.cons (.var 1) (.cons (.var 2) .nil))))))) .nil))))))))))⟩
def n_read_rule : List Str := ["text", "voices", "row", "words", "kind", "numbers"]
def p_read_rule : List Str := ["text", "voices", "row"]
def c_read_rule : Ck := ⟨n_read_rule, defScope (top 43), defScope (top 43), [], [], [("every_rule", 4), ("numbers_of", 2), ("column_rule", 5), ("alike_rule", 4), ("voice_rule", 5)], [], [], [], []⟩
theorem e_read_rule : embSs c_read_rule a_read_rule.body (defBody (top 43)) = true := by decide +kernel
theorem s_read_rule : FnScope n_read_rule p_read_rule (defScope (top 43)) := C8.fnScope_by (by decide +kernel)
def a_Span_size : Df := ⟨1, 1, [], (.cons (.ret (.cst (.int 1))) .nil)⟩
def n_Span_size : List Str := ["self"]
def p_Span_size : List Str := ["self"]
def c_Span_size : Ck := ⟨n_Span_size, defScope (mth 2 1), defScope (mth 2 1), [], [], [], [], [], [], []⟩
theorem e_Span_size : embSs c_Span_size a_Span_size.body (defBody (mth 2 1)) = true := by decide +kernel
theorem s_Span_size : FnScope n_Span_size p_Span_size (defScope (mth 2 1)) := C8.fnScope_by (by decide +kernel)
def a_Clock_size : Df := a_Span_size
def a_Begin_size : Df := a_Span_size
def a_Close_size : Df := a_Span_size
def a_Back_size : Df := ⟨1, 1, [], (.cons (.ret (.cst (.int 3))) .nil)⟩
def n_Back_size : List Str := ["self"]
def p_Back_size : List Str := ["self"]
def c_Back_size : Ck := ⟨n_Back_size, defScope (mth 23 1), defScope (mth 23 1), [], [], [], [], [], [], []⟩
theorem e_Back_size : embSs c_Back_size a_Back_size.body (defBody (mth 23 1)) = true := by decide +kernel
theorem s_Back_size : FnScope n_Back_size p_Back_size (defScope (mth 23 1)) := C8.fnScope_by (by decide +kernel)
def a_Held_size : Df := ⟨1, 1, [], (.cons (.ret (.fld ["Held"] (.var 0) "most")) .nil)⟩
def n_Held_size : List Str := ["self"]
def p_Held_size : List Str := ["self"]
def c_Held_size : Ck := ⟨n_Held_size, defScope (mth 24 1), defScope (mth 24 1), [], [], [], [("Held", "most")], [], [], []⟩
theorem e_Held_size : embSs c_Held_size a_Held_size.body (defBody (mth 24 1)) = true := by decide +kernel
theorem s_Held_size : FnScope n_Held_size p_Held_size (defScope (mth 24 1)) := C8.fnScope_by (by decide +kernel)
def a_Times_size : Df := ⟨1, 1, [], (.cons (.ret (.bin .add (.fld ["Times"] (.var 0) "high") (.cst (.int 1)))) .nil)⟩
def n_Times_size : List Str := ["self"]
def p_Times_size : List Str := ["self"]
def c_Times_size : Ck := ⟨n_Times_size, defScope (mth 25 1), defScope (mth 25 1), [], [], [], [("Times", "high")], [], [], []⟩
theorem e_Times_size : embSs c_Times_size a_Times_size.body (defBody (mth 25 1)) = true := by decide +kernel
theorem s_Times_size : FnScope n_Times_size p_Times_size (defScope (mth 25 1)) := C8.fnScope_by (by decide +kernel)
def a_Every_size : Df := ⟨1, 1, [], (.cons (.ret (.fld ["Clock", "Every"] (.var 0) "beat")) .nil)⟩
def n_Every_size : List Str := ["self"]
def p_Every_size : List Str := ["self"]
def c_Every_size : Ck := ⟨n_Every_size, defScope (mth 26 1), defScope (mth 26 1), [], [], [], [("Clock", "beat"), ("Every", "beat")], [], [], []⟩
theorem e_Every_size : embSs c_Every_size a_Every_size.body (defBody (mth 26 1)) = true := by decide +kernel
theorem s_Every_size : FnScope n_Every_size p_Every_size (defScope (mth 26 1)) := C8.fnScope_by (by decide +kernel)
def a_Move_size : Df := a_Span_size
def a_Alike_size : Df := a_Span_size
def b_weight_0 : Sms := (.cons (.set 1 (.bin .mul (.var 1) (.bin .add (.bin .sub (.var 3) (.var 2)) (.cst (.int 1))))) .nil)
def b_weight_1 : Sms := (.cons (.set 1 (.bin .mul (.var 1) (.mth ["Span", "Clock", "Begin", "Close", "Back", "Held", "Times", "Every", "Move", "Alike"] (.var 4) "size" .nil))) (.frz 1 .nil))
def a_weight : Df := ⟨1, 5, [], (.cons (.set 1 (.cst (.int 1))) (.cons (.for_ (.tup [2, 3]) (.seq (.fld ["Score"] (.var 0) "ranges")) b_weight_0) (.cons (.for_ (.one 4) (.seq (.fld ["Score"] (.var 0) "rules")) b_weight_1) (.cons (.ret (.var 1)) .nil))))⟩
def n_weight : List Str := ["score", "found", "low", "high", "rule"]
def p_weight : List Str := ["score"]
def c_weight : Ck := ⟨n_weight, defScope (top 11), defScope (top 11), [], [], [], [("Score", "ranges"), ("Score", "rules")], [("Span", "size", 0), ("Clock", "size", 0), ("Begin", "size", 0), ("Close", "size", 0), ("Back", "size", 0), ("Held", "size", 0), ("Times", "size", 0), ("Every", "size", 0), ("Move", "size", 0), ("Alike", "size", 0)], [], []⟩
theorem e_weight : embSs c_weight a_weight.body (defBody (top 11)) = true := by decide +kernel
theorem s_weight : FnScope n_weight p_weight (defScope (top 11)) := C8.fnScope_by (by decide +kernel)
def a_Score_init : Df := ⟨3, 3, [], (.cons (.fst ["Score"] "ranges" (.bi .list (.cons (.var 1) .nil))) (.cons (.fst ["Score"] "rules" (.bi .list (.cons (.var 2) .nil))) .nil))⟩
def n_Score_init : List Str := ["self", "ranges", "rules"]
def p_Score_init : List Str := ["self", "ranges", "rules"]
def c_Score_init : Ck := ⟨n_Score_init, defScope (mth 10 0), defScope (mth 10 0), [], ["list"], [], [("Score", "ranges"), ("Score", "rules")], [], [], []⟩
theorem e_Score_init : embIs c_Score_init a_Score_init.body (defBody (mth 10 0)) = true := by decide +kernel
theorem s_Score_init : FnScope n_Score_init p_Score_init (defScope (mth 10 0)) := C8.fnScope_by (by decide +kernel)
def b_read_0 : Sms := (.cons (.ifs (.cmp .eq (.sub (.m1 .split (.var 4) (.cst (.str [32]))) (.cst (.int 0))) (.cst (.str [118, 111, 105, 99, 101]))) (.cons (.ifs (.or (.cmp .ne (.var 2) (.lst .nil)) (.cmp .eq (.bi .len (.cons (.var 1) .nil)) (.cst (.int 4)))) (.cons (.nev) .nil) .nil) (.cons (.app 1 (.call "read_range" (.cons (.var 4) (.cons (.var 3) .nil)))) .nil)) (.cons (.ifs (.or (.cmp .eq (.var 1) (.lst .nil)) (.cmp .eq (.bi .len (.cons (.var 2) .nil)) (.cst (.int 12)))) (.cons (.nev) .nil) .nil) (.cons (.app 2 (.call "read_rule" (.cons (.var 4) (.cons (.bi .len (.cons (.var 1) .nil)) (.cons (.var 3) .nil))))) .nil))) .nil)
def a_read : Df := ⟨1, 6, [], (.cons (.set 1 (.lst .nil)) (.cons (.set 2 (.lst .nil)) (.cons (.for_ (.tup [3, 4]) (.enum (.m1 .split (.var 0) (.cst (.str [10])))) b_read_0) (.frz 1 (.frz 2 (.cons (.set 5 (.mk "Score" (.cons (.var 1) (.cons (.var 2) .nil)))) (.frz 5 (.cons (.ifs (.cmp .gt (.call "weight" (.cons (.var 5) .nil)) (.cst (.int 400))) (.cons (.nev) .nil) .nil) (.cons (.ret (.var 5)) .nil)))))))))⟩
def n_read : List Str := ["text", "ranges", "rules", "row", "told", "score"]
def p_read : List Str := ["text"]
def c_read : Ck := ⟨n_read, defScope (top 48), defScope (top 48), [("MOST_scores", .int 400), ("RULES", .int 12), ("VOICES", .int 4)], ["enumerate", "len"], [("read_range", 2), ("read_rule", 3), ("weight", 1)], [], [], [("Score", 2)], []⟩
theorem e_read : embSs c_read a_read.body (defBody (top 48)) = true := by decide +kernel
theorem s_read : FnScope n_read p_read (defScope (top 48)) := C8.fnScope_by (by decide +kernel)
def q_l_text_0 : Ex := .bin .add (.bin .add (.bin .add (.cst (.str [118, 111, 105, 99, 101, 32])) (.bi .str (.cons (.var 3) .nil))) (.cst (.str [32]))) (.bi .str (.cons (.var 4) .nil))
def q_l_text_1 : Ex := .bi .str (.cons (.var 6) .nil)
def q_l_text_2 : Ex := .m1 .join (.cst (.str [32])) (.lc [("_law_word", 6)] (.one 6) (.seq (.var 5)) (.cst (.bl true)) q_l_text_1)
def a_l_text : Df := ⟨2, 7, [], (.cons (.set 2 (.lc [("_law_low", 3), ("_law_high", 4)] (.tup [3, 4]) (.seq (.var 0)) (.cst (.bl true)) q_l_text_0)) (.cons (.ext 2 (.lc [("_law_rule_here", 5)] (.one 5) (.seq (.var 1)) (.cst (.bl true)) q_l_text_2)) (.cons (.ret (.m1 .join (.cst (.str [10])) (.var 2))) .nil)))⟩
def n_l_text : List Str := ["_law_ranges_here", "_law_rules_here", "_law_rows", "_law_low", "_law_high", "_law_rule_here", "_law_word"]
def p_l_text : List Str := ["_law_ranges_here", "_law_rules_here"]
def c_l_text : Ck := ⟨n_l_text, defScope (top 60), defScope (top 60), [], ["str"], [], [], [], [], []⟩
theorem e_l_text : embSs c_l_text a_l_text.body (defBody (top 60)) = true := by decide +kernel
theorem s_l_text : FnScope n_l_text p_l_text (defScope (top 60)) := C8.fnScope_by (by decide +kernel)
def b_l_alike_0 : Sms := (.cons (.ifs (.or (.nt (.isa (.var 2) "int")) (.isa (.var 2) "bool")) (.cons (.ret (.cst (.bl false))) .nil) .nil) .nil)
def a_l_alike : Df := ⟨2, 3, [], (.cons (.ifs (.cmp .is (.var 1) (.cst .non)) (.cons (.ret (.cmp .is (.var 0) (.cst .non))) .nil) .nil) (.cons (.ifs (.or (.nt (.isa (.var 0) "tuple")) (.cmp .ne (.bi .len (.cons (.var 0) .nil)) (.cst (.int 2)))) (.cons (.ret (.cst (.bl false))) .nil) .nil) (.cons (.for_ (.one 2) (.seq (.var 0)) b_l_alike_0) (.cons (.ret (.cmp .eq (.var 0) (.var 1))) .nil))))⟩
def n_l_alike : List Str := ["_law_found", "_law_due", "_law_number"]
def p_l_alike : List Str := ["_law_found", "_law_due"]
def c_l_alike : Ck := ⟨n_l_alike, defScope (top 70), defScope (top 70), [], ["bool", "int", "isinstance", "len", "tuple"], [], [], [], [], []⟩
theorem e_l_alike : embSs c_l_alike a_l_alike.body (defBody (top 70)) = true := by decide +kernel
theorem s_l_alike : FnScope n_l_alike p_l_alike (defScope (top 70)) := C8.fnScope_by (by decide +kernel)
def q_l_badly_closed_0 : Ex := .sub (.var 3) (.bin .sub (.sub (.var 0) (.cst (.int 1))) (.cst (.int 1)))
def a_l_badly_closed : Df := ⟨2, 4, [], (.cons (.ifs (.cmp .nin (.sub (.var 0) (.cst (.int 0))) (.tup (.cons (.cst (.str [98, 97, 99, 107])) (.cons (.cst (.str [116, 105, 109, 101, 115])) (.cons (.cst (.str [99, 108, 111, 115, 101])) .nil))))) (.cons (.ret (.cst (.bl false))) .nil) .nil) (.cons (.set 2 (.lc [("_law_column_here", 3)] (.one 3) (.seq (.var 1)) (.cst (.bl true)) q_l_badly_closed_0)) (.frz 2 (.cons (.ifs (.cmp .eq (.sub (.var 0) (.cst (.int 0))) (.cst (.str [116, 105, 109, 101, 115]))) (.cons (.ret (.cmp .lt (.cnt (.var 2) (.sub (.var 0) (.cst (.int 2)))) (.sub (.var 0) (.cst (.int 3))))) .nil) .nil) (.cons (.ifs (.cmp .eq (.sub (.var 0) (.cst (.int 0))) (.cst (.str [99, 108, 111, 115, 101]))) (.cons (.ret (.and (.cmp .ne (.var 2) (.lst .nil)) (.cmp .nin (.sub (.var 2) (.neg (.cst (.int 1)))) (.slcL (.var 0) (.cst (.int 2)))))) .nil) .nil) (.cons (.ret (.and (.cmp .gt (.bi .len (.cons (.var 2) .nil)) (.cst (.int 1))) (.cmp .gt (.bi .abs (.cons (.bin .sub (.sub (.var 2) (.neg (.cst (.int 1)))) (.sub (.var 2) (.neg (.cst (.int 2))))) .nil)) (.sub (.var 0) (.cst (.int 2)))))) .nil))))))⟩
def n_l_badly_closed : List Str := ["_law_rule_here", "_law_line_here", "_law_notes", "_law_column_here"]
def p_l_badly_closed : List Str := ["_law_rule_here", "_law_line_here"]
def c_l_badly_closed : Ck := ⟨n_l_badly_closed, defScope (top 65), defScope (top 65), [], ["abs", "len"], [], [], [], [], []⟩
theorem e_l_badly_closed : embSs c_l_badly_closed a_l_badly_closed.body (defBody (top 65)) = true := by decide +kernel
theorem s_l_badly_closed : FnScope n_l_badly_closed p_l_badly_closed (defScope (top 65)) := C8.fnScope_by (by decide +kernel)
def b_l_fault_0 : Sms := (.cons (.set 4 (.call "_law_row_at" (.cons (.var 0) (.cons (.var 1) (.cons (.var 2) (.cons (.var 3) .nil)))))) (.frz 4 (.cons (.ifs (.cmp .isn (.var 4) (.cst .non)) (.cons (.ret (.tup (.cons (.var 3) (.cons (.var 4) .nil)))) .nil) .nil) .nil)))
def b_l_fault_1 : Sms := (.cons (.ifs (.call "_law_badly_closed" (.cons (.sub (.var 1) (.var 5)) (.cons (.var 2) .nil))) (.cons (.ret (.tup (.cons (.bi .len (.cons (.var 2) .nil)) (.cons (.bin .add (.bi .len (.cons (.var 0) .nil)) (.var 5)) .nil)))) .nil) .nil) .nil)
def a_l_fault : Df := ⟨3, 6, [], (.cons (.for_ (.one 3) (.rng (.bi .len (.cons (.var 2) .nil))) b_l_fault_0) (.cons (.for_ (.one 5) (.rng (.bi .len (.cons (.var 1) .nil))) b_l_fault_1) (.cons (.ret (.cst .non)) .nil)))⟩
def n_l_fault : List Str := ["_law_ranges_here", "_law_rules_here", "_law_line_here", "_law_at", "_law_row", "_law_k"]
def p_l_fault : List Str := ["_law_ranges_here", "_law_rules_here", "_law_line_here"]
def c_l_fault : Ck := ⟨n_l_fault, defScope (top 67), defScope (top 67), [], ["len", "range"], [("_law_row_at", 4), ("_law_badly_closed", 2)], [], [], [], []⟩
theorem e_l_fault : embSs c_l_fault a_l_fault.body (defBody (top 67)) = true := by decide +kernel
theorem s_l_fault : FnScope n_l_fault p_l_fault (defScope (top 67)) := C8.fnScope_by (by decide +kernel)
def a_earlier : Df := ⟨3, 3, [], (.cons (.ifs (.cmp .is (.var 1) (.cst .non)) (.cons (.ret (.var 0)) .nil) .nil) (.cons (.ifs (.or (.cmp .is (.var 0) (.cst .non)) (.cmp .lt (.var 1) (.sub (.var 0) (.cst (.int 0))))) (.cons (.ret (.tup (.cons (.var 1) (.cons (.var 2) .nil)))) .nil) .nil) (.cons (.ret (.var 0)) .nil)))⟩
def n_earlier : List Str := ["found", "place", "row"]
def p_earlier : List Str := ["found", "place", "row"]
def c_earlier : Ck := ⟨n_earlier, defScope (top 13), defScope (top 13), [], [], [], [], [], [], []⟩
theorem e_earlier : embSs c_earlier a_earlier.body (defBody (top 13)) = true := by decide +kernel
theorem s_earlier : FnScope n_earlier p_earlier (defScope (top 13)) := C8.fnScope_by (by decide +kernel)
def b_out_at_0 : Sms := (.cons (.ifs (.or (.cmp .lt (.sub (.var 5) (.var 2)) (.var 0)) (.cmp .gt (.sub (.var 5) (.var 2)) (.var 1))) (.cons (.ret (.var 4)) .nil) .nil) .nil)
def a_out_at : Df := ⟨4, 6, [], (.cons (.for_ (.tup [4, 5]) (.enum (.var 3)) b_out_at_0) (.cons (.ret (.cst .non)) .nil))⟩
def n_out_at : List Str := ["low", "high", "voice", "line", "place", "column"]
def p_out_at : List Str := ["low", "high", "voice", "line"]
def c_out_at : Ck := ⟨n_out_at, defScope (top 12), defScope (top 12), [], ["enumerate"], [], [], [], [], []⟩
theorem e_out_at : embSs c_out_at a_out_at.body (defBody (top 12)) = true := by decide +kernel
theorem s_out_at : FnScope n_out_at p_out_at (defScope (top 12)) := C8.fnScope_by (by decide +kernel)
def a_Span_start : Df := ⟨1, 1, [], (.cons (.ret (.cst (.int 0))) .nil)⟩
def n_Span_start : List Str := ["self"]
def p_Span_start : List Str := ["self"]
def c_Span_start : Ck := ⟨n_Span_start, defScope (mth 2 2), defScope (mth 2 2), [], [], [], [], [], [], []⟩
theorem e_Span_start : embSs c_Span_start a_Span_start.body (defBody (mth 2 2)) = true := by decide +kernel
theorem s_Span_start : FnScope n_Span_start p_Span_start (defScope (mth 2 2)) := C8.fnScope_by (by decide +kernel)
def a_Clock_start : Df := a_Span_start
def a_Begin_start : Df := a_Span_start
def a_Close_start : Df := a_Span_start
def a_Back_start : Df := ⟨1, 1, [], (.cons (.ret (.cst (.int 0))) .nil)⟩
def n_Back_start : List Str := ["self"]
def p_Back_start : List Str := ["self"]
def c_Back_start : Ck := ⟨n_Back_start, defScope (mth 23 2), defScope (mth 23 2), [("CALM", .int 0)], [], [], [], [], [], []⟩
theorem e_Back_start : embSs c_Back_start a_Back_start.body (defBody (mth 23 2)) = true := by decide +kernel
theorem s_Back_start : FnScope n_Back_start p_Back_start (defScope (mth 23 2)) := C8.fnScope_by (by decide +kernel)
def a_Held_start : Df := a_Span_start
def a_Times_start : Df := a_Span_start
def a_Every_start : Df := a_Span_start
def a_Move_start : Df := a_Span_start
def a_Alike_start : Df := a_Span_start
def a_Span_after : Df := ⟨4, 4, [], (.cons (.ifs (.cmp .inn (.bin .sub (.sub (.var 3) (.fld ["Span", "Clock", "Alike"] (.var 0) "other")) (.sub (.var 3) (.fld ["Span", "Clock", "Alike"] (.var 0) "one"))) (.fld ["Span", "Clock", "Begin", "Close", "Move", "Alike"] (.var 0) "some")) (.cons (.ret (.var 1)) .nil) .nil) (.cons (.ret (.cst .non)) .nil))⟩
def n_Span_after : List Str := ["self", "memory", "before", "column"]
def p_Span_after : List Str := ["self", "memory", "before", "column"]
def c_Span_after : Ck := ⟨n_Span_after, defScope (mth 3 1), defScope (mth 3 1), [], [], [], [("Span", "other"), ("Clock", "other"), ("Alike", "other"), ("Span", "one"), ("Clock", "one"), ("Alike", "one"), ("Span", "some"), ("Clock", "some"), ("Begin", "some"), ("Close", "some"), ("Move", "some"), ("Alike", "some")], [], [], []⟩
theorem e_Span_after : embSs c_Span_after a_Span_after.body (defBody (mth 3 1)) = true := by decide +kernel
theorem s_Span_after : FnScope n_Span_after p_Span_after (defScope (mth 3 1)) := C8.fnScope_by (by decide +kernel)
def a_Clock_after : Df := ⟨4, 4, [], (.cons (.ifs (.cmp .inn (.bin .mod (.bin .sub (.sub (.var 3) (.fld ["Span", "Clock", "Alike"] (.var 0) "other")) (.sub (.var 3) (.fld ["Span", "Clock", "Alike"] (.var 0) "one"))) (.fld ["Clock", "Every"] (.var 0) "beat")) (.fld ["Span", "Clock", "Begin", "Close", "Move", "Alike"] (.var 0) "some")) (.cons (.ret (.var 1)) .nil) .nil) (.cons (.ret (.cst .non)) .nil))⟩
def n_Clock_after : List Str := ["self", "memory", "before", "column"]
def p_Clock_after : List Str := ["self", "memory", "before", "column"]
def c_Clock_after : Ck := ⟨n_Clock_after, defScope (mth 4 1), defScope (mth 4 1), [], [], [], [("Span", "other"), ("Clock", "other"), ("Alike", "other"), ("Span", "one"), ("Clock", "one"), ("Alike", "one"), ("Clock", "beat"), ("Every", "beat"), ("Span", "some"), ("Clock", "some"), ("Begin", "some"), ("Close", "some"), ("Move", "some"), ("Alike", "some")], [], [], []⟩
theorem e_Clock_after : embSs c_Clock_after a_Clock_after.body (defBody (mth 4 1)) = true := by decide +kernel
theorem s_Clock_after : FnScope n_Clock_after p_Clock_after (defScope (mth 4 1)) := C8.fnScope_by (by decide +kernel)
def a_Begin_after : Df := ⟨4, 4, [], (.cons (.ifs (.and (.cmp .is (.var 2) (.cst .non)) (.cmp .nin (.sub (.var 3) (.fld ["Begin", "Close", "Back", "Held", "Times", "Move"] (.var 0) "voice")) (.fld ["Span", "Clock", "Begin", "Close", "Move", "Alike"] (.var 0) "some"))) (.cons (.ret (.cst .non)) .nil) .nil) (.cons (.ret (.var 1)) .nil))⟩
def n_Begin_after : List Str := ["self", "memory", "before", "column"]
def p_Begin_after : List Str := ["self", "memory", "before", "column"]
def c_Begin_after : Ck := ⟨n_Begin_after, defScope (mth 5 1), defScope (mth 5 1), [], [], [], [("Begin", "voice"), ("Close", "voice"), ("Back", "voice"), ("Held", "voice"), ("Times", "voice"), ("Move", "voice"), ("Span", "some"), ("Clock", "some"), ("Begin", "some"), ("Close", "some"), ("Move", "some"), ("Alike", "some")], [], [], []⟩
theorem e_Begin_after : embSs c_Begin_after a_Begin_after.body (defBody (mth 5 1)) = true := by decide +kernel
theorem s_Begin_after : FnScope n_Begin_after p_Begin_after (defScope (mth 5 1)) := C8.fnScope_by (by decide +kernel)
def a_Close_after : Df := ⟨4, 4, [], (.cons (.ret (.var 1)) .nil)⟩
def n_Close_after : List Str := ["self", "memory", "before", "column"]
def p_Close_after : List Str := ["self", "memory", "before", "column"]
def c_Close_after : Ck := ⟨n_Close_after, defScope (mth 2 3), defScope (mth 2 3), [], [], [], [], [], [], []⟩
theorem e_Close_after : embSs c_Close_after a_Close_after.body (defBody (mth 2 3)) = true := by decide +kernel
theorem s_Close_after : FnScope n_Close_after p_Close_after (defScope (mth 2 3)) := C8.fnScope_by (by decide +kernel)
def a_Back_after : Df := ⟨4, 5, [], (.cons (.ifs (.cmp .is (.var 2) (.cst .non)) (.cons (.ret (.cst (.int 0))) .nil) .nil) (.cons (.set 4 (.bin .sub (.sub (.var 3) (.fld ["Begin", "Close", "Back", "Held", "Times", "Move"] (.var 0) "voice")) (.sub (.var 2) (.fld ["Begin", "Close", "Back", "Held", "Times", "Move"] (.var 0) "voice")))) (.cons (.ifs (.or (.and (.cmp .eq (.var 1) (.cst (.int 1))) (.cmp .ge (.var 4) (.cst (.int 0)))) (.and (.cmp .eq (.var 1) (.cst (.int 2))) (.cmp .le (.var 4) (.cst (.int 0))))) (.cons (.ret (.cst .non)) .nil) .nil) (.cons (.ifs (.cmp .gt (.var 4) (.fld ["Back"] (.var 0) "far")) (.cons (.ret (.cst (.int 1))) .nil) .nil) (.cons (.ifs (.cmp .lt (.var 4) (.bin .sub (.cst (.int 0)) (.fld ["Back"] (.var 0) "far"))) (.cons (.ret (.cst (.int 2))) .nil) .nil) (.cons (.ret (.cst (.int 0))) .nil))))))⟩
def n_Back_after : List Str := ["self", "memory", "before", "column", "move"]
def p_Back_after : List Str := ["self", "memory", "before", "column"]
def c_Back_after : Ck := ⟨n_Back_after, defScope (mth 23 3), defScope (mth 23 3), [("CALM", .int 0), ("DOWN", .int 2), ("UP", .int 1)], [], [], [("Begin", "voice"), ("Close", "voice"), ("Back", "voice"), ("Held", "voice"), ("Times", "voice"), ("Move", "voice"), ("Back", "far")], [], [], []⟩
theorem e_Back_after : embSs c_Back_after a_Back_after.body (defBody (mth 23 3)) = true := by decide +kernel
theorem s_Back_after : FnScope n_Back_after p_Back_after (defScope (mth 23 3)) := C8.fnScope_by (by decide +kernel)
def a_Held_after : Df := ⟨4, 4, [], (.cons (.ifs (.or (.cmp .is (.var 2) (.cst .non)) (.cmp .ne (.sub (.var 3) (.fld ["Begin", "Close", "Back", "Held", "Times", "Move"] (.var 0) "voice")) (.sub (.var 2) (.fld ["Begin", "Close", "Back", "Held", "Times", "Move"] (.var 0) "voice")))) (.cons (.ret (.cst (.int 0))) .nil) .nil) (.cons (.ifs (.cmp .eq (.bin .add (.var 1) (.cst (.int 1))) (.fld ["Held"] (.var 0) "most")) (.cons (.ret (.cst .non)) .nil) .nil) (.cons (.ret (.bin .add (.var 1) (.cst (.int 1)))) .nil)))⟩
def n_Held_after : List Str := ["self", "memory", "before", "column"]
def p_Held_after : List Str := ["self", "memory", "before", "column"]
def c_Held_after : Ck := ⟨n_Held_after, defScope (mth 24 2), defScope (mth 24 2), [], [], [], [("Begin", "voice"), ("Close", "voice"), ("Back", "voice"), ("Held", "voice"), ("Times", "voice"), ("Move", "voice"), ("Held", "most")], [], [], []⟩
theorem e_Held_after : embSs c_Held_after a_Held_after.body (defBody (mth 24 2)) = true := by decide +kernel
theorem s_Held_after : FnScope n_Held_after p_Held_after (defScope (mth 24 2)) := C8.fnScope_by (by decide +kernel)
def a_Times_after : Df := ⟨4, 4, [], (.cons (.ifs (.cmp .ne (.sub (.var 3) (.fld ["Begin", "Close", "Back", "Held", "Times", "Move"] (.var 0) "voice")) (.fld ["Times"] (.var 0) "note")) (.cons (.ret (.var 1)) .nil) .nil) (.cons (.ifs (.cmp .eq (.var 1) (.fld ["Times"] (.var 0) "high")) (.cons (.ret (.cst .non)) .nil) .nil) (.cons (.ret (.bin .add (.var 1) (.cst (.int 1)))) .nil)))⟩
def n_Times_after : List Str := ["self", "memory", "before", "column"]
def p_Times_after : List Str := ["self", "memory", "before", "column"]
def c_Times_after : Ck := ⟨n_Times_after, defScope (mth 25 2), defScope (mth 25 2), [], [], [], [("Begin", "voice"), ("Close", "voice"), ("Back", "voice"), ("Held", "voice"), ("Times", "voice"), ("Move", "voice"), ("Times", "note"), ("Times", "high")], [], [], []⟩
theorem e_Times_after : embSs c_Times_after a_Times_after.body (defBody (mth 25 2)) = true := by decide +kernel
theorem s_Times_after : FnScope n_Times_after p_Times_after (defScope (mth 25 2)) := C8.fnScope_by (by decide +kernel)
def a_Every_after : Df := ⟨4, 5, [], (.cons (.ifs (.cmp .eq (.var 1) (.fld ["Every"] (.var 0) "at")) (.cons (.set 4 (.fld ["Every"] (.var 0) "rule")) (.frz 4 (.cons (.ifs (.cmp .is (.mth ["Span", "Clock"] (.var 4) "after" (.cons (.mth ["Span", "Clock"] (.var 4) "start" .nil) (.cons (.var 2) (.cons (.var 3) .nil)))) (.cst .non)) (.cons (.ret (.cst .non)) .nil) .nil) .nil))) .nil) (.cons (.ret (.bin .mod (.bin .add (.var 1) (.cst (.int 1))) (.fld ["Clock", "Every"] (.var 0) "beat"))) .nil))⟩
def n_Every_after : List Str := ["self", "memory", "before", "column", "rule"]
def p_Every_after : List Str := ["self", "memory", "before", "column"]
def c_Every_after : Ck := ⟨n_Every_after, defScope (mth 26 2), defScope (mth 26 2), [], [], [], [("Every", "at"), ("Every", "rule"), ("Clock", "beat"), ("Every", "beat")], [("Span", "after", 3), ("Clock", "after", 3), ("Span", "start", 0), ("Clock", "start", 0)], [], []⟩
theorem e_Every_after : embSs c_Every_after a_Every_after.body (defBody (mth 26 2)) = true := by decide +kernel
theorem s_Every_after : FnScope n_Every_after p_Every_after (defScope (mth 26 2)) := C8.fnScope_by (by decide +kernel)
def a_Move_after : Df := ⟨4, 4, [], (.cons (.ifs (.or (.cmp .is (.var 2) (.cst .non)) (.cmp .inn (.bin .sub (.sub (.var 3) (.fld ["Begin", "Close", "Back", "Held", "Times", "Move"] (.var 0) "voice")) (.sub (.var 2) (.fld ["Begin", "Close", "Back", "Held", "Times", "Move"] (.var 0) "voice"))) (.fld ["Span", "Clock", "Begin", "Close", "Move", "Alike"] (.var 0) "some"))) (.cons (.ret (.var 1)) .nil) .nil) (.cons (.ret (.cst .non)) .nil))⟩
def n_Move_after : List Str := ["self", "memory", "before", "column"]
def p_Move_after : List Str := ["self", "memory", "before", "column"]
def c_Move_after : Ck := ⟨n_Move_after, defScope (mth 28 1), defScope (mth 28 1), [], [], [], [("Begin", "voice"), ("Close", "voice"), ("Back", "voice"), ("Held", "voice"), ("Times", "voice"), ("Move", "voice"), ("Span", "some"), ("Clock", "some"), ("Begin", "some"), ("Close", "some"), ("Move", "some"), ("Alike", "some")], [], [], []⟩
theorem e_Move_after : embSs c_Move_after a_Move_after.body (defBody (mth 28 1)) = true := by decide +kernel
theorem s_Move_after : FnScope n_Move_after p_Move_after (defScope (mth 28 1)) := C8.fnScope_by (by decide +kernel)
def a_Alike_after : Df := ⟨4, 5, [], (.cons (.ifs (.or (.cmp .is (.var 2) (.cst .non)) (.cmp .eq (.sub (.var 3) (.fld ["Span", "Clock", "Alike"] (.var 0) "one")) (.sub (.var 2) (.fld ["Span", "Clock", "Alike"] (.var 0) "one")))) (.cons (.ret (.var 1)) .nil) .nil) (.cons (.set 4 (.bin .sub (.sub (.var 3) (.fld ["Span", "Clock", "Alike"] (.var 0) "other")) (.sub (.var 3) (.fld ["Span", "Clock", "Alike"] (.var 0) "one")))) (.cons (.ifs (.and (.cmp .eq (.var 4) (.bin .sub (.sub (.var 2) (.fld ["Span", "Clock", "Alike"] (.var 0) "other")) (.sub (.var 2) (.fld ["Span", "Clock", "Alike"] (.var 0) "one")))) (.cmp .inn (.var 4) (.fld ["Span", "Clock", "Begin", "Close", "Move", "Alike"] (.var 0) "some"))) (.cons (.ret (.cst .non)) .nil) .nil) (.cons (.ret (.var 1)) .nil))))⟩
def n_Alike_after : List Str := ["self", "memory", "before", "column", "span"]
def p_Alike_after : List Str := ["self", "memory", "before", "column"]
def c_Alike_after : Ck := ⟨n_Alike_after, defScope (mth 29 1), defScope (mth 29 1), [], [], [], [("Span", "one"), ("Clock", "one"), ("Alike", "one"), ("Span", "other"), ("Clock", "other"), ("Alike", "other"), ("Span", "some"), ("Clock", "some"), ("Begin", "some"), ("Close", "some"), ("Move", "some"), ("Alike", "some")], [], [], []⟩
theorem e_Alike_after : embSs c_Alike_after a_Alike_after.body (defBody (mth 29 1)) = true := by decide +kernel
theorem s_Alike_after : FnScope n_Alike_after p_Alike_after (defScope (mth 29 1)) := C8.fnScope_by (by decide +kernel)
def a_Span_closes : Df := ⟨3, 3, [], (.cons (.ret (.cst (.bl true))) .nil)⟩
def n_Span_closes : List Str := ["self", "memory", "last"]
def p_Span_closes : List Str := ["self", "memory", "last"]
def c_Span_closes : Ck := ⟨n_Span_closes, defScope (mth 2 4), defScope (mth 2 4), [], [], [], [], [], [], []⟩
theorem e_Span_closes : embSs c_Span_closes a_Span_closes.body (defBody (mth 2 4)) = true := by decide +kernel
theorem s_Span_closes : FnScope n_Span_closes p_Span_closes (defScope (mth 2 4)) := C8.fnScope_by (by decide +kernel)
def a_Clock_closes : Df := a_Span_closes
def a_Begin_closes : Df := a_Span_closes
def a_Close_closes : Df := ⟨3, 3, [], (.cons (.ret (.or (.cmp .is (.var 2) (.cst .non)) (.cmp .inn (.sub (.var 2) (.fld ["Begin", "Close", "Back", "Held", "Times", "Move"] (.var 0) "voice")) (.fld ["Span", "Clock", "Begin", "Close", "Move", "Alike"] (.var 0) "some")))) .nil)⟩
def n_Close_closes : List Str := ["self", "memory", "last"]
def p_Close_closes : List Str := ["self", "memory", "last"]
def c_Close_closes : Ck := ⟨n_Close_closes, defScope (mth 6 1), defScope (mth 6 1), [], [], [], [("Begin", "voice"), ("Close", "voice"), ("Back", "voice"), ("Held", "voice"), ("Times", "voice"), ("Move", "voice"), ("Span", "some"), ("Clock", "some"), ("Begin", "some"), ("Close", "some"), ("Move", "some"), ("Alike", "some")], [], [], []⟩
theorem e_Close_closes : embSs c_Close_closes a_Close_closes.body (defBody (mth 6 1)) = true := by decide +kernel
theorem s_Close_closes : FnScope n_Close_closes p_Close_closes (defScope (mth 6 1)) := C8.fnScope_by (by decide +kernel)
def a_Back_closes : Df := ⟨3, 3, [], (.cons (.ret (.cmp .eq (.var 1) (.cst (.int 0)))) .nil)⟩
def n_Back_closes : List Str := ["self", "memory", "last"]
def p_Back_closes : List Str := ["self", "memory", "last"]
def c_Back_closes : Ck := ⟨n_Back_closes, defScope (mth 23 4), defScope (mth 23 4), [("CALM", .int 0)], [], [], [], [], [], []⟩
theorem e_Back_closes : embSs c_Back_closes a_Back_closes.body (defBody (mth 23 4)) = true := by decide +kernel
theorem s_Back_closes : FnScope n_Back_closes p_Back_closes (defScope (mth 23 4)) := C8.fnScope_by (by decide +kernel)
def a_Held_closes : Df := a_Span_closes
def a_Times_closes : Df := ⟨3, 3, [], (.cons (.ret (.cmp .ge (.var 1) (.fld ["Times"] (.var 0) "low"))) .nil)⟩
def n_Times_closes : List Str := ["self", "memory", "last"]
def p_Times_closes : List Str := ["self", "memory", "last"]
def c_Times_closes : Ck := ⟨n_Times_closes, defScope (mth 25 3), defScope (mth 25 3), [], [], [], [("Times", "low")], [], [], []⟩
theorem e_Times_closes : embSs c_Times_closes a_Times_closes.body (defBody (mth 25 3)) = true := by decide +kernel
theorem s_Times_closes : FnScope n_Times_closes p_Times_closes (defScope (mth 25 3)) := C8.fnScope_by (by decide +kernel)
def a_Every_closes : Df := a_Span_closes
def a_Move_closes : Df := a_Span_closes
def a_Alike_closes : Df := a_Span_closes
def b_broken_at_0 : Sms := (.cons (.set 2 (.mth ["Span", "Clock", "Begin", "Close", "Back", "Held", "Times", "Every", "Move", "Alike"] (.var 0) "after" (.cons (.var 2) (.cons (.var 3) (.cons (.var 5) .nil))))) (.frz 2 (.cons (.ifs (.cmp .is (.var 2) (.cst .non)) (.cons (.ret (.var 4)) .nil) .nil) (.cons (.set 3 (.var 5)) (.frz 3 .nil)))))
def a_broken_at : Df := ⟨2, 6, [], (.cons (.set 2 (.mth ["Span", "Clock", "Begin", "Close", "Back", "Held", "Times", "Every", "Move", "Alike"] (.var 0) "start" .nil)) (.frz 2 (.cons (.set 3 (.cst .non)) (.cons (.for_ (.tup [4, 5]) (.enum (.var 1)) b_broken_at_0) (.cons (.ifs (.mth ["Span", "Clock", "Begin", "Close", "Back", "Held", "Times", "Every", "Move", "Alike"] (.var 0) "closes" (.cons (.var 2) (.cons (.var 3) .nil))) (.cons (.ret (.cst .non)) .nil) .nil) (.cons (.ret (.bi .len (.cons (.var 1) .nil))) .nil))))))⟩
def n_broken_at : List Str := ["rule", "line", "memory", "before", "place", "column"]
def p_broken_at : List Str := ["rule", "line"]
def c_broken_at : Ck := ⟨n_broken_at, defScope (top 7), defScope (top 7), [], ["enumerate", "len"], [], [], [("Span", "start", 0), ("Clock", "start", 0), ("Begin", "start", 0), ("Close", "start", 0), ("Back", "start", 0), ("Held", "start", 0), ("Times", "start", 0), ("Every", "start", 0), ("Move", "start", 0), ("Alike", "start", 0), ("Span", "after", 3), ("Clock", "after", 3), ("Begin", "after", 3), ("Close", "after", 3), ("Back", "after", 3), ("Held", "after", 3), ("Times", "after", 3), ("Every", "after", 3), ("Move", "after", 3), ("Alike", "after", 3), ("Span", "closes", 2), ("Clock", "closes", 2), ("Begin", "closes", 2), ("Close", "closes", 2), ("Back", "closes", 2), ("Held", "closes", 2), ("Times", "closes", 2), ("Every", "closes", 2), ("Move", "closes", 2), ("Alike", "closes", 2)], [], []⟩
theorem e_broken_at : embSs c_broken_at a_broken_at.body (defBody (top 7)) = true := by decide +kernel
theorem s_broken_at : FnScope n_broken_at p_broken_at (defScope (top 7)) := C8.fnScope_by (by decide +kernel)
def b_fault_0 : Sms := (.cons (.set 2 (.call "earlier" (.cons (.var 2) (.cons (.call "out_at" (.cons (.var 4) (.cons (.var 5) (.cons (.var 3) (.cons (.var 1) .nil))))) (.cons (.var 3) .nil))))) (.frz 2 (.cons (.set 3 (.bin .add (.var 3) (.cst (.int 1)))) .nil)))
def b_fault_1 : Sms := (.cons (.set 2 (.call "earlier" (.cons (.var 2) (.cons (.call "broken_at" (.cons (.var 6) (.cons (.var 1) .nil))) (.cons (.var 3) .nil))))) (.frz 2 (.cons (.set 3 (.bin .add (.var 3) (.cst (.int 1)))) .nil)))
def a_fault : Df := ⟨2, 7, [], (.cons (.set 2 (.cst .non)) (.cons (.set 3 (.cst (.int 0))) (.cons (.for_ (.tup [4, 5]) (.seq (.fld ["Score"] (.var 0) "ranges")) b_fault_0) (.cons (.for_ (.one 6) (.seq (.fld ["Score"] (.var 0) "rules")) b_fault_1) (.cons (.ret (.var 2)) .nil)))))⟩
def n_fault : List Str := ["score", "line", "found", "row", "low", "high", "rule"]
def p_fault : List Str := ["score", "line"]
def c_fault : Ck := ⟨n_fault, defScope (top 14), defScope (top 14), [], [], [("earlier", 3), ("out_at", 4), ("broken_at", 2)], [("Score", "ranges"), ("Score", "rules")], [], [], []⟩
theorem e_fault : embSs c_fault a_fault.body (defBody (top 14)) = true := by decide +kernel
theorem s_fault : FnScope n_fault p_fault (defScope (top 14)) := C8.fnScope_by (by decide +kernel)
def qc_law_0 : Ex := .cmp .ne (.var 7) (.cst (.str []))
def q_law_0 : Ex := .call "read_rule" (.cons (.var 7) (.cons (.bi .len (.cons (.var 1) .nil)) .nil))
def b_law_0 : Sms := (.cons (.set 9 (.call "_law_fault" (.cons (.var 1) (.cons (.var 2) (.cons (.slcH (.var 3) (.var 8)) .nil))))) (.frz 9 (.cons (.ifs (.or (.nt (.call "_law_alike" (.cons (.call "fault" (.cons (.var 4) (.cons (.slcH (.var 3) (.var 8)) .nil))) (.cons (.var 9) .nil)))) (.nt (.call "_law_alike" (.cons (.call "fault" (.cons (.var 6) (.cons (.slcH (.var 3) (.var 8)) .nil))) (.cons (.var 9) .nil))))) (.cons (.ret (.cst (.bl false))) .nil) .nil) .nil)))
def a_law : Df := ⟨1, 10, [], (.cons (.set 1 (.call "_law_ranges" (.cons (.var 0) .nil))) (.frz 1 (.cons (.set 2 (.call "_law_rules" (.cons (.var 0) (.cons (.var 1) .nil)))) (.frz 2 (.cons (.set 3 (.call "_law_line" (.cons (.var 0) (.cons (.var 1) (.cons (.var 2) .nil))))) (.frz 3 (.cons (.set 4 (.call "read" (.cons (.call "_law_text" (.cons (.var 1) (.cons (.var 2) .nil))) .nil))) (.frz 4 (.cons (.set 5 (.bi .list (.cons (.var 3) .nil))) (.frz 5 (.cons (.ifs (.or (.nt (.call "_law_alike" (.cons (.call "fault" (.cons (.var 4) (.cons (.var 5) .nil))) (.cons (.call "_law_fault" (.cons (.var 1) (.cons (.var 2) (.cons (.var 3) .nil)))) .nil)))) (.cmp .ne (.var 5) (.var 3))) (.cons (.ret (.cst (.bl false))) .nil) .nil) (.cons (.set 6 (.mk "Score" (.cons (.bi .list (.cons (.var 1) .nil)) (.cons (.lc [("_law_row", 7)] (.one 7) (.seq (.m1 .split (.call "_law_text" (.cons (.lst .nil) (.cons (.var 2) .nil))) (.cst (.str [10])))) (qc_law_0) q_law_0) .nil)))) (.frz 6 (.cons (.for_ (.one 8) (.seq (.lst (.cons (.cst (.int 0)) (.cons (.cst (.int 1)) (.cons (.bin .fdiv (.bi .len (.cons (.var 3) .nil)) (.cst (.int 2))) (.cons (.bi .len (.cons (.var 3) .nil)) .nil)))))) b_law_0) (.cons (.ret (.cst (.bl true))) .nil)))))))))))))))⟩
def n_law : List Str := ["_law_script", "_law_ranges_here", "_law_rules_here", "_law_line_here", "_law_score", "_law_handed", "_law_made", "_law_row", "_law_many", "_law_due"]
def p_law : List Str := ["_law_script"]
def c_law : Ck := ⟨n_law, defScope (top 71), defScope (top 71), [], ["len", "list"], [("_law_ranges", 1), ("_law_rules", 2), ("_law_line", 3), ("read", 1), ("_law_text", 2), ("_law_alike", 2), ("_law_fault", 3), ("fault", 2), ("read_rule", 2)], [], [], [("Score", 2)], []⟩
theorem e_law : embSs c_law a_law.body (defBody (top 71)) = true := by decide +kernel
theorem s_law : FnScope n_law p_law (defScope (top 71)) := C8.fnScope_by (by decide +kernel)
def defs : List (String × Df) := [("_law_stirred", a_l_stirred), ("_law_got", a_l_got), ("_law_ranges", a_l_ranges), ("_law_some", a_l_some), ("_law_spans", a_l_spans), ("_law_single", a_l_single), ("_law_rule", a_l_rule), ("_law_size", a_l_size), ("_law_rules", a_l_rules), ("_law_cells", a_l_cells), ("_law_column", a_l_column), ("_law_one_column", a_l_one_column), ("_law_two_columns", a_l_two_columns), ("_law_one_voice", a_l_one_voice), ("_law_broken", a_l_broken), ("_law_row_at", a_l_row_at), ("_law_line", a_l_line), ("is_number", a_is_number), ("read_range", a_read_range), ("look_at", a_look_at), ("numbers_of", a_numbers_of), ("some_of", a_some_of), ("Rule.__init__", a_Rule_init), ("Span.__init__", a_Span_init), ("Clock.__init__", a_Clock_init), ("column_rule", a_column_rule), ("Every.__init__", a_Every_init), ("every_rule", a_every_rule), ("Alike.__init__", a_Alike_init), ("alike_rule", a_alike_rule), ("Move.__init__", a_Move_init), ("Begin.__init__", a_Begin_init), ("Close.__init__", a_Close_init), ("Times.__init__", a_Times_init), ("Back.__init__", a_Back_init), ("Held.__init__", a_Held_init), ("voice_rule", a_voice_rule), ("read_rule", a_read_rule), ("Span.size", a_Span_size), ("Clock.size", a_Clock_size), ("Begin.size", a_Begin_size), ("Close.size", a_Close_size), ("Back.size", a_Back_size), ("Held.size", a_Held_size), ("Times.size", a_Times_size), ("Every.size", a_Every_size), ("Move.size", a_Move_size), ("Alike.size", a_Alike_size), ("weight", a_weight), ("Score.__init__", a_Score_init), ("read", a_read), ("_law_text", a_l_text), ("_law_alike", a_l_alike), ("_law_badly_closed", a_l_badly_closed), ("_law_fault", a_l_fault), ("earlier", a_earlier), ("out_at", a_out_at), ("Span.start", a_Span_start), ("Clock.start", a_Clock_start), ("Begin.start", a_Begin_start), ("Close.start", a_Close_start), ("Back.start", a_Back_start), ("Held.start", a_Held_start), ("Times.start", a_Times_start), ("Every.start", a_Every_start), ("Move.start", a_Move_start), ("Alike.start", a_Alike_start), ("Span.after", a_Span_after), ("Clock.after", a_Clock_after), ("Begin.after", a_Begin_after), ("Close.after", a_Close_after), ("Back.after", a_Back_after), ("Held.after", a_Held_after), ("Times.after", a_Times_after), ("Every.after", a_Every_after), ("Move.after", a_Move_after), ("Alike.after", a_Alike_after), ("Span.closes", a_Span_closes), ("Clock.closes", a_Clock_closes), ("Begin.closes", a_Begin_closes), ("Close.closes", a_Close_closes), ("Back.closes", a_Back_closes), ("Held.closes", a_Held_closes), ("Times.closes", a_Times_closes), ("Every.closes", a_Every_closes), ("Move.closes", a_Move_closes), ("Alike.closes", a_Alike_closes), ("broken_at", a_broken_at), ("fault", a_fault), ("law", a_law)]
noncomputable abbrev mir (k : Nat) : Fns := mirN defs k
abbrev noE : EIs := fun _ _ _ _ _ => False
def d_l_stirred : He.DefD := ⟨("_law_stirred", none), "_law_stirred", "_law_stirred", defArgs (top 50), defBody (top 50), defScope (top 50), [], []⟩
def d_l_got : He.DefD := ⟨("_law_got", none), "_law_got", "_law_got", defArgs (top 51), defBody (top 51), defScope (top 51), [], []⟩
def d_l_ranges : He.DefD := ⟨("_law_ranges", none), "_law_ranges", "_law_ranges", defArgs (top 53), defBody (top 53), defScope (top 53), [], []⟩
def d_l_some : He.DefD := ⟨("_law_some", none), "_law_some", "_law_some", defArgs (top 55), defBody (top 55), defScope (top 55), [], []⟩
def d_l_spans : He.DefD := ⟨("_law_spans", none), "_law_spans", "_law_spans", defArgs (top 56), defBody (top 56), defScope (top 56), [], []⟩
def d_l_single : He.DefD := ⟨("_law_single", none), "_law_single", "_law_single", defArgs (top 57), defBody (top 57), defScope (top 57), [], []⟩
def d_l_rule : He.DefD := ⟨("_law_rule", none), "_law_rule", "_law_rule", defArgs (top 58), defBody (top 58), defScope (top 58), [], []⟩
def d_l_size : He.DefD := ⟨("_law_size", none), "_law_size", "_law_size", defArgs (top 54), defBody (top 54), defScope (top 54), [], []⟩
def d_l_rules : He.DefD := ⟨("_law_rules", none), "_law_rules", "_law_rules", defArgs (top 59), defBody (top 59), defScope (top 59), [], []⟩
def d_l_cells : He.DefD := ⟨("_law_cells", none), "_law_cells", "_law_cells", defArgs (top 52), defBody (top 52), defScope (top 52), [], []⟩
def d_l_column : He.DefD := ⟨("_law_column", none), "_law_column", "_law_column", defArgs (top 68), defBody (top 68), defScope (top 68), [], []⟩
def d_l_one_column : He.DefD := ⟨("_law_one_column", none), "_law_one_column", "_law_one_column", defArgs (top 61), defBody (top 61), defScope (top 61), [], []⟩
def d_l_two_columns : He.DefD := ⟨("_law_two_columns", none), "_law_two_columns", "_law_two_columns", defArgs (top 62), defBody (top 62), defScope (top 62), [], []⟩
def d_l_one_voice : He.DefD := ⟨("_law_one_voice", none), "_law_one_voice", "_law_one_voice", defArgs (top 63), defBody (top 63), defScope (top 63), [], []⟩
def d_l_broken : He.DefD := ⟨("_law_broken", none), "_law_broken", "_law_broken", defArgs (top 64), defBody (top 64), defScope (top 64), [], []⟩
def d_l_row_at : He.DefD := ⟨("_law_row_at", none), "_law_row_at", "_law_row_at", defArgs (top 66), defBody (top 66), defScope (top 66), [], []⟩
def d_l_line : He.DefD := ⟨("_law_line", none), "_law_line", "_law_line", defArgs (top 69), defBody (top 69), defScope (top 69), [], []⟩
def d_is_number : He.DefD := ⟨("is_number", none), "is_number", "is_number", defArgs (top 33), defBody (top 33), defScope (top 33), [], []⟩
def d_read_range : He.DefD := ⟨("read_range", none), "read_range", "read_range", defArgs (top 47), defBody (top 47), defScope (top 47), [], []⟩
def d_look_at : He.DefD := ⟨("look_at", none), "look_at", "look_at", defArgs (top 38), defBody (top 38), defScope (top 38), [], []⟩
def d_numbers_of : He.DefD := ⟨("numbers_of", none), "numbers_of", "numbers_of", defArgs (top 36), defBody (top 36), defScope (top 36), [], []⟩
def d_some_of : He.DefD := ⟨("some_of", none), "some_of", "some_of", defArgs (top 37), defBody (top 37), defScope (top 37), [], []⟩
def d_Rule_init : He.DefD := ⟨("Rule", some "__init__"), "__init__", "Rule.__init__", defArgs (mth 2 0), defBody (mth 2 0), defScope (mth 2 0), [], []⟩
def d_Span_init : He.DefD := ⟨("Span", some "__init__"), "__init__", "Span.__init__", defArgs (mth 3 0), defBody (mth 3 0), defScope (mth 3 0), [], []⟩
def d_Clock_init : He.DefD := ⟨("Clock", some "__init__"), "__init__", "Clock.__init__", defArgs (mth 4 0), defBody (mth 4 0), defScope (mth 4 0), [], []⟩
def d_column_rule : He.DefD := ⟨("column_rule", none), "column_rule", "column_rule", defArgs (top 39), defBody (top 39), defScope (top 39), [], []⟩
def d_Every_init : He.DefD := ⟨("Every", some "__init__"), "__init__", "Every.__init__", defArgs (mth 26 0), defBody (mth 26 0), defScope (mth 26 0), [], []⟩
def d_every_rule : He.DefD := ⟨("every_rule", none), "every_rule", "every_rule", defArgs (top 42), defBody (top 42), defScope (top 42), [], []⟩
def d_Alike_init : He.DefD := ⟨("Alike", some "__init__"), "__init__", "Alike.__init__", defArgs (mth 29 0), defBody (mth 29 0), defScope (mth 29 0), [], []⟩
def d_alike_rule : He.DefD := ⟨("alike_rule", none), "alike_rule", "alike_rule", defArgs (top 40), defBody (top 40), defScope (top 40), [], []⟩
def d_Move_init : He.DefD := ⟨("Move", some "__init__"), "__init__", "Move.__init__", defArgs (mth 28 0), defBody (mth 28 0), defScope (mth 28 0), [], []⟩
def d_Begin_init : He.DefD := ⟨("Begin", some "__init__"), "__init__", "Begin.__init__", defArgs (mth 5 0), defBody (mth 5 0), defScope (mth 5 0), [], []⟩
def d_Close_init : He.DefD := ⟨("Close", some "__init__"), "__init__", "Close.__init__", defArgs (mth 6 0), defBody (mth 6 0), defScope (mth 6 0), [], []⟩
def d_Times_init : He.DefD := ⟨("Times", some "__init__"), "__init__", "Times.__init__", defArgs (mth 25 0), defBody (mth 25 0), defScope (mth 25 0), [], []⟩
def d_Back_init : He.DefD := ⟨("Back", some "__init__"), "__init__", "Back.__init__", defArgs (mth 23 0), defBody (mth 23 0), defScope (mth 23 0), [], []⟩
def d_Held_init : He.DefD := ⟨("Held", some "__init__"), "__init__", "Held.__init__", defArgs (mth 24 0), defBody (mth 24 0), defScope (mth 24 0), [], []⟩
def d_voice_rule : He.DefD := ⟨("voice_rule", none), "voice_rule", "voice_rule", defArgs (top 41), defBody (top 41), defScope (top 41), [], []⟩
def d_read_rule : He.DefD := ⟨("read_rule", none), "read_rule", "read_rule", defArgs (top 43), defBody (top 43), defScope (top 43), [.int 0], []⟩
def d_Span_size : He.DefD := ⟨("Span", some "size"), "size", "Rule.size", defArgs (mth 2 1), defBody (mth 2 1), defScope (mth 2 1), [], []⟩
def d_Clock_size : He.DefD := ⟨("Clock", some "size"), "size", "Rule.size", defArgs (mth 2 1), defBody (mth 2 1), defScope (mth 2 1), [], []⟩
def d_Begin_size : He.DefD := ⟨("Begin", some "size"), "size", "Rule.size", defArgs (mth 2 1), defBody (mth 2 1), defScope (mth 2 1), [], []⟩
def d_Close_size : He.DefD := ⟨("Close", some "size"), "size", "Rule.size", defArgs (mth 2 1), defBody (mth 2 1), defScope (mth 2 1), [], []⟩
def d_Back_size : He.DefD := ⟨("Back", some "size"), "size", "Back.size", defArgs (mth 23 1), defBody (mth 23 1), defScope (mth 23 1), [], []⟩
def d_Held_size : He.DefD := ⟨("Held", some "size"), "size", "Held.size", defArgs (mth 24 1), defBody (mth 24 1), defScope (mth 24 1), [], []⟩
def d_Times_size : He.DefD := ⟨("Times", some "size"), "size", "Times.size", defArgs (mth 25 1), defBody (mth 25 1), defScope (mth 25 1), [], []⟩
def d_Every_size : He.DefD := ⟨("Every", some "size"), "size", "Every.size", defArgs (mth 26 1), defBody (mth 26 1), defScope (mth 26 1), [], []⟩
def d_Move_size : He.DefD := ⟨("Move", some "size"), "size", "Rule.size", defArgs (mth 2 1), defBody (mth 2 1), defScope (mth 2 1), [], []⟩
def d_Alike_size : He.DefD := ⟨("Alike", some "size"), "size", "Rule.size", defArgs (mth 2 1), defBody (mth 2 1), defScope (mth 2 1), [], []⟩
def d_weight : He.DefD := ⟨("weight", none), "weight", "weight", defArgs (top 11), defBody (top 11), defScope (top 11), [], []⟩
def d_Score_init : He.DefD := ⟨("Score", some "__init__"), "__init__", "Score.__init__", defArgs (mth 10 0), defBody (mth 10 0), defScope (mth 10 0), [], []⟩
def d_read : He.DefD := ⟨("read", none), "read", "read", defArgs (top 48), defBody (top 48), defScope (top 48), [], []⟩
def d_l_text : He.DefD := ⟨("_law_text", none), "_law_text", "_law_text", defArgs (top 60), defBody (top 60), defScope (top 60), [], []⟩
def d_l_alike : He.DefD := ⟨("_law_alike", none), "_law_alike", "_law_alike", defArgs (top 70), defBody (top 70), defScope (top 70), [], []⟩
def d_l_badly_closed : He.DefD := ⟨("_law_badly_closed", none), "_law_badly_closed", "_law_badly_closed", defArgs (top 65), defBody (top 65), defScope (top 65), [], []⟩
def d_l_fault : He.DefD := ⟨("_law_fault", none), "_law_fault", "_law_fault", defArgs (top 67), defBody (top 67), defScope (top 67), [], []⟩
def d_earlier : He.DefD := ⟨("earlier", none), "earlier", "earlier", defArgs (top 13), defBody (top 13), defScope (top 13), [], []⟩
def d_out_at : He.DefD := ⟨("out_at", none), "out_at", "out_at", defArgs (top 12), defBody (top 12), defScope (top 12), [], []⟩
def d_Span_start : He.DefD := ⟨("Span", some "start"), "start", "Rule.start", defArgs (mth 2 2), defBody (mth 2 2), defScope (mth 2 2), [], []⟩
def d_Clock_start : He.DefD := ⟨("Clock", some "start"), "start", "Rule.start", defArgs (mth 2 2), defBody (mth 2 2), defScope (mth 2 2), [], []⟩
def d_Begin_start : He.DefD := ⟨("Begin", some "start"), "start", "Rule.start", defArgs (mth 2 2), defBody (mth 2 2), defScope (mth 2 2), [], []⟩
def d_Close_start : He.DefD := ⟨("Close", some "start"), "start", "Rule.start", defArgs (mth 2 2), defBody (mth 2 2), defScope (mth 2 2), [], []⟩
def d_Back_start : He.DefD := ⟨("Back", some "start"), "start", "Back.start", defArgs (mth 23 2), defBody (mth 23 2), defScope (mth 23 2), [], []⟩
def d_Held_start : He.DefD := ⟨("Held", some "start"), "start", "Rule.start", defArgs (mth 2 2), defBody (mth 2 2), defScope (mth 2 2), [], []⟩
def d_Times_start : He.DefD := ⟨("Times", some "start"), "start", "Rule.start", defArgs (mth 2 2), defBody (mth 2 2), defScope (mth 2 2), [], []⟩
def d_Every_start : He.DefD := ⟨("Every", some "start"), "start", "Rule.start", defArgs (mth 2 2), defBody (mth 2 2), defScope (mth 2 2), [], []⟩
def d_Move_start : He.DefD := ⟨("Move", some "start"), "start", "Rule.start", defArgs (mth 2 2), defBody (mth 2 2), defScope (mth 2 2), [], []⟩
def d_Alike_start : He.DefD := ⟨("Alike", some "start"), "start", "Rule.start", defArgs (mth 2 2), defBody (mth 2 2), defScope (mth 2 2), [], []⟩
def d_Span_after : He.DefD := ⟨("Span", some "after"), "after", "Span.after", defArgs (mth 3 1), defBody (mth 3 1), defScope (mth 3 1), [], []⟩
def d_Clock_after : He.DefD := ⟨("Clock", some "after"), "after", "Clock.after", defArgs (mth 4 1), defBody (mth 4 1), defScope (mth 4 1), [], []⟩
def d_Begin_after : He.DefD := ⟨("Begin", some "after"), "after", "Begin.after", defArgs (mth 5 1), defBody (mth 5 1), defScope (mth 5 1), [], []⟩
def d_Close_after : He.DefD := ⟨("Close", some "after"), "after", "Rule.after", defArgs (mth 2 3), defBody (mth 2 3), defScope (mth 2 3), [], []⟩
def d_Back_after : He.DefD := ⟨("Back", some "after"), "after", "Back.after", defArgs (mth 23 3), defBody (mth 23 3), defScope (mth 23 3), [], []⟩
def d_Held_after : He.DefD := ⟨("Held", some "after"), "after", "Held.after", defArgs (mth 24 2), defBody (mth 24 2), defScope (mth 24 2), [], []⟩
def d_Times_after : He.DefD := ⟨("Times", some "after"), "after", "Times.after", defArgs (mth 25 2), defBody (mth 25 2), defScope (mth 25 2), [], []⟩
def d_Every_after : He.DefD := ⟨("Every", some "after"), "after", "Every.after", defArgs (mth 26 2), defBody (mth 26 2), defScope (mth 26 2), [], []⟩
def d_Move_after : He.DefD := ⟨("Move", some "after"), "after", "Move.after", defArgs (mth 28 1), defBody (mth 28 1), defScope (mth 28 1), [], []⟩
def d_Alike_after : He.DefD := ⟨("Alike", some "after"), "after", "Alike.after", defArgs (mth 29 1), defBody (mth 29 1), defScope (mth 29 1), [], []⟩
def d_Span_closes : He.DefD := ⟨("Span", some "closes"), "closes", "Rule.closes", defArgs (mth 2 4), defBody (mth 2 4), defScope (mth 2 4), [], []⟩
def d_Clock_closes : He.DefD := ⟨("Clock", some "closes"), "closes", "Rule.closes", defArgs (mth 2 4), defBody (mth 2 4), defScope (mth 2 4), [], []⟩
def d_Begin_closes : He.DefD := ⟨("Begin", some "closes"), "closes", "Rule.closes", defArgs (mth 2 4), defBody (mth 2 4), defScope (mth 2 4), [], []⟩
def d_Close_closes : He.DefD := ⟨("Close", some "closes"), "closes", "Close.closes", defArgs (mth 6 1), defBody (mth 6 1), defScope (mth 6 1), [], []⟩
def d_Back_closes : He.DefD := ⟨("Back", some "closes"), "closes", "Back.closes", defArgs (mth 23 4), defBody (mth 23 4), defScope (mth 23 4), [], []⟩
def d_Held_closes : He.DefD := ⟨("Held", some "closes"), "closes", "Rule.closes", defArgs (mth 2 4), defBody (mth 2 4), defScope (mth 2 4), [], []⟩
def d_Times_closes : He.DefD := ⟨("Times", some "closes"), "closes", "Times.closes", defArgs (mth 25 3), defBody (mth 25 3), defScope (mth 25 3), [], []⟩
def d_Every_closes : He.DefD := ⟨("Every", some "closes"), "closes", "Rule.closes", defArgs (mth 2 4), defBody (mth 2 4), defScope (mth 2 4), [], []⟩
def d_Move_closes : He.DefD := ⟨("Move", some "closes"), "closes", "Rule.closes", defArgs (mth 2 4), defBody (mth 2 4), defScope (mth 2 4), [], []⟩
def d_Alike_closes : He.DefD := ⟨("Alike", some "closes"), "closes", "Rule.closes", defArgs (mth 2 4), defBody (mth 2 4), defScope (mth 2 4), [], []⟩
def d_broken_at : He.DefD := ⟨("broken_at", none), "broken_at", "broken_at", defArgs (top 7), defBody (top 7), defScope (top 7), [], []⟩
def d_fault : He.DefD := ⟨("fault", none), "fault", "fault", defArgs (top 14), defBody (top 14), defScope (top 14), [], []⟩
def d_law : He.DefD := ⟨("law", none), "law", "law", defArgs (top 71), defBody (top 71), defScope (top 71), [], []⟩
def fn : List He.DefD := [d_l_stirred, d_l_got, d_l_ranges, d_l_some, d_l_spans, d_l_single, d_l_rule, d_l_size, d_l_rules, d_l_cells, d_l_column, d_l_one_column, d_l_two_columns, d_l_one_voice, d_l_broken, d_l_row_at, d_l_line, d_is_number, d_read_range, d_look_at, d_numbers_of, d_some_of, d_Rule_init, d_Span_init, d_Clock_init, d_column_rule, d_Every_init, d_every_rule, d_Alike_init, d_alike_rule, d_Move_init, d_Begin_init, d_Close_init, d_Times_init, d_Back_init, d_Held_init, d_voice_rule, d_read_rule, d_Span_size, d_Clock_size, d_Begin_size, d_Close_size, d_Back_size, d_Held_size, d_Times_size, d_Every_size, d_Move_size, d_Alike_size, d_weight, d_Score_init, d_read, d_l_text, d_l_alike, d_l_badly_closed, d_l_fault, d_earlier, d_out_at, d_Span_start, d_Clock_start, d_Begin_start, d_Close_start, d_Back_start, d_Held_start, d_Times_start, d_Every_start, d_Move_start, d_Alike_start, d_Span_after, d_Clock_after, d_Begin_after, d_Close_after, d_Back_after, d_Held_after, d_Times_after, d_Every_after, d_Move_after, d_Alike_after, d_Span_closes, d_Clock_closes, d_Begin_closes, d_Close_closes, d_Back_closes, d_Held_closes, d_Times_closes, d_Every_closes, d_Move_closes, d_Alike_closes, d_broken_at, d_fault, d_law]
def fa : List He.Fa := [.glo "_law_stirred", .free "divmod", .free "range", .glo "_law_got", .free "abs", .glo "_law_ranges", .glo "_law_some", .free "len", .glo "_law_spans", .free "list", .glo "_law_single", .glo "_law_rule", .glo "_law_size", .glo "_law_rules", .glo "_law_cells", .free "min", .glo "_law_column", .free "tuple", .glo "_law_one_column", .glo "_law_two_columns", .glo "_law_one_voice", .glo "_law_broken", .glo "_law_row_at", .glo "_law_line", .glo "is_number", .str "FIGURES" "0123456789", .int "MOST_words" 40, .glo "read_range", .free "int", .glo "look_at", .glo "numbers_of", .glo "some_of", .int "MOST_rulereader" 12, .cls "Rule", .noat "Rule" "told", .cls "Span", .noat "Span" "told", .cls "Clock", .noat "Clock" "told", .cls "Begin", .noat "Begin" "told", .cls "Close", .noat "Close" "told", .cls "Back", .noat "Back" "told", .cls "Held", .noat "Held" "told", .cls "Times", .noat "Times" "told", .cls "Every", .noat "Every" "told", .cls "Move", .noat "Move" "told", .cls "Alike", .noat "Alike" "told", .noat "Span" "one", .noat "Span" "other", .noat "Span" "some", .glo "Rule", .noat "Clock" "one", .noat "Clock" "other", .noat "Clock" "beat", .noat "Clock" "some", .glo "column_rule", .mkr "Span", .glo "Span", .mkr "Clock", .glo "Clock", .noat "Every" "beat", .noat "Every" "at", .noat "Every" "rule", .glo "every_rule", .mkr "Every", .glo "Every", .noat "Alike" "one", .noat "Alike" "other", .noat "Alike" "some", .glo "alike_rule", .mkr "Alike", .glo "Alike", .noat "Move" "voice", .noat "Move" "some", .noat "Begin" "voice", .noat "Begin" "some", .noat "Close" "voice", .noat "Close" "some", .noat "Times" "voice", .noat "Times" "note", .noat "Times" "low", .noat "Times" "high", .noat "Back" "voice", .noat "Back" "far", .noat "Held" "voice", .noat "Held" "most", .glo "voice_rule", .mkr "Move", .glo "Move", .mkr "Begin", .glo "Begin", .mkr "Close", .glo "Close", .mkr "Times", .glo "Times", .mkr "Back", .glo "Back", .mkr "Held", .glo "Held", .glo "read_rule", .glo "weight", .cls "Score", .noat "Score" "ranges", .noat "Score" "rules", .meth "Span" "size", .meth "Clock" "size", .meth "Begin" "size", .meth "Close" "size", .meth "Back" "size", .meth "Held" "size", .meth "Times" "size", .meth "Every" "size", .meth "Move" "size", .meth "Alike" "size", .glo "read", .int "MOST_scores" 400, .int "RULES" 12, .int "VOICES" 4, .free "enumerate", .mkr "Score", .glo "Score", .glo "_law_text", .free "str", .glo "_law_alike", .free "bool", .free "isinstance", .glo "_law_badly_closed", .glo "_law_fault", .glo "earlier", .glo "out_at", .int "CALM" 0, .int "DOWN" 2, .int "UP" 1, .meth "Span" "after", .meth "Clock" "after", .meth "Span" "start", .meth "Clock" "start", .glo "broken_at", .meth "Begin" "start", .meth "Close" "start", .meth "Back" "start", .meth "Held" "start", .meth "Times" "start", .meth "Every" "start", .meth "Move" "start", .meth "Alike" "start", .meth "Begin" "after", .meth "Close" "after", .meth "Back" "after", .meth "Held" "after", .meth "Times" "after", .meth "Every" "after", .meth "Move" "after", .meth "Alike" "after", .meth "Span" "closes", .meth "Clock" "closes", .meth "Begin" "closes", .meth "Close" "closes", .meth "Back" "closes", .meth "Held" "closes", .meth "Times" "closes", .meth "Every" "closes", .meth "Move" "closes", .meth "Alike" "closes", .glo "fault", .glo "law"]
def bs (K : PySem.W.Frag) : Bool := basB "Rule" K && (true)
section
variable {P : Program} {w : World} {K : PySem.W.Frag} {h base : Heap} {mg : Str → Option Value}
theorem bas_Rule {K : PySem.W.Frag} (cb : bs K = true) : basB "Rule" K = true := (Bool.and_eq_true_iff.mp cb).1
theorem m_l_stirred (X : K.In h) (G : h.Ns mainGlobals mg) (c : He.SaysD fa fn K) (cb : bs K = true) (k : Nat) : ModOk P w K mg base (k + 0) (gN defs noE (k + 0)) c_l_stirred where
  con := conNil
  fr := frCons (He.free_ok X G (c.fact 1)) (frCons (He.free_ok X G (c.fact 2)) (frNil))
  fn := fnNil
  at_ := atNil
  me := meNil
  mks := mksNil
theorem o_l_stirred (X : K.In h) (G : h.Ns mainGlobals mg) (c : He.SaysD fa fn K) (cb : bs K = true) (k : Nat) : FnM P w K mg base (k + 1) (gN defs noE (k + 1)) "_law_stirred" 2 := by
  obtain ⟨fd, F⟩ := c.def_ 0 (d := d_l_stirred) rfl
  exact fn_m0 F (He.glo_ok X G (c.fact 0)) s_l_stirred rfl rfl rfl (m_l_stirred X G c cb k) e_l_stirred rfl rfl rfl rfl (FunD.bindsN (ps := p_l_stirred) F fun _ _ _ _ _ _ us hl => match us, hl with | [_, _], _ => rfl)
theorem m_l_got (X : K.In h) (G : h.Ns mainGlobals mg) (c : He.SaysD fa fn K) (cb : bs K = true) (k : Nat) : ModOk P w K mg base (k + 1) (gN defs noE (k + 1)) c_l_got where
  con := conNil
  fr := frCons (He.free_ok X G (c.fact 4)) (frNil)
  fn := fnCons (FnM.lift (by omega) (by omega) (o_l_stirred X G c cb k)) (fnNil)
  at_ := atNil
  me := meNil
  mks := mksNil
theorem o_l_got (X : K.In h) (G : h.Ns mainGlobals mg) (c : He.SaysD fa fn K) (cb : bs K = true) (k : Nat) : FnM P w K mg base (k + 2) (gN defs noE (k + 2)) "_law_got" 2 := by
  obtain ⟨fd, F⟩ := c.def_ 1 (d := d_l_got) rfl
  exact fn_m0 F (He.glo_ok X G (c.fact 3)) s_l_got rfl rfl rfl (m_l_got X G c cb k) e_l_got rfl rfl rfl rfl (FunD.bindsN (ps := p_l_got) F fun _ _ _ _ _ _ us hl => match us, hl with | [_, _], _ => rfl)
theorem m_l_ranges (X : K.In h) (G : h.Ns mainGlobals mg) (c : He.SaysD fa fn K) (cb : bs K = true) (k : Nat) : ModOk P w K mg base (k + 2) (gN defs noE (k + 2)) c_l_ranges where
  con := conNil
  fr := frCons (He.free_ok X G (c.fact 2)) (frNil)
  fn := fnCons (FnM.lift (by omega) (by omega) (o_l_got X G c cb k)) (fnNil)
  at_ := atNil
  me := meNil
  mks := mksNil
theorem o_l_ranges (X : K.In h) (G : h.Ns mainGlobals mg) (c : He.SaysD fa fn K) (cb : bs K = true) (k : Nat) : FnM P w K mg base (k + 3) (gN defs noE (k + 3)) "_law_ranges" 1 := by
  obtain ⟨fd, F⟩ := c.def_ 2 (d := d_l_ranges) rfl
  exact fn_m0 F (He.glo_ok X G (c.fact 5)) s_l_ranges rfl rfl rfl (m_l_ranges X G c cb k) e_l_ranges rfl rfl rfl rfl (FunD.bindsN (ps := p_l_ranges) F fun _ _ _ _ _ _ us hl => match us, hl with | [_], _ => rfl)
theorem m_l_some (X : K.In h) (G : h.Ns mainGlobals mg) (c : He.SaysD fa fn K) (cb : bs K = true) (k : Nat) : ModOk P w K mg base (k + 0) (gN defs noE (k + 0)) c_l_some where
  con := conNil
  fr := frCons (He.free_ok X G (c.fact 1)) (frCons (He.free_ok X G (c.fact 7)) (frCons (He.free_ok X G (c.fact 2)) (frNil)))
  fn := fnNil
  at_ := atNil
  me := meNil
  mks := mksNil
theorem o_l_some (X : K.In h) (G : h.Ns mainGlobals mg) (c : He.SaysD fa fn K) (cb : bs K = true) (k : Nat) : FnM P w K mg base (k + 1) (gN defs noE (k + 1)) "_law_some" 2 := by
  obtain ⟨fd, F⟩ := c.def_ 3 (d := d_l_some) rfl
  exact fn_m0 F (He.glo_ok X G (c.fact 6)) s_l_some rfl rfl rfl (m_l_some X G c cb k) e_l_some rfl rfl rfl rfl (FunD.bindsN (ps := p_l_some) F fun _ _ _ _ _ _ us hl => match us, hl with | [_, _], _ => rfl)
theorem m_l_spans (X : K.In h) (G : h.Ns mainGlobals mg) (c : He.SaysD fa fn K) (cb : bs K = true) (k : Nat) : ModOk P w K mg base (k + 0) (gN defs noE (k + 0)) c_l_spans where
  con := conNil
  fr := frCons (He.free_ok X G (c.fact 9)) (frCons (He.free_ok X G (c.fact 2)) (frNil))
  fn := fnNil
  at_ := atNil
  me := meNil
  mks := mksNil
theorem o_l_spans (X : K.In h) (G : h.Ns mainGlobals mg) (c : He.SaysD fa fn K) (cb : bs K = true) (k : Nat) : FnM P w K mg base (k + 1) (gN defs noE (k + 1)) "_law_spans" 3 := by
  obtain ⟨fd, F⟩ := c.def_ 4 (d := d_l_spans) rfl
  exact fn_m0 F (He.glo_ok X G (c.fact 8)) s_l_spans rfl rfl rfl (m_l_spans X G c cb k) e_l_spans rfl rfl rfl rfl (FunD.bindsN (ps := p_l_spans) F fun _ _ _ _ _ _ us hl => match us, hl with | [_, _, _], _ => rfl)
theorem m_l_single (X : K.In h) (G : h.Ns mainGlobals mg) (c : He.SaysD fa fn K) (cb : bs K = true) (k : Nat) : ModOk P w K mg base (k + 1) (gN defs noE (k + 1)) c_l_single where
  con := conNil
  fr := frCons (He.free_ok X G (c.fact 7)) (frCons (He.free_ok X G (c.fact 9)) (frCons (He.free_ok X G (c.fact 2)) (frNil)))
  fn := fnCons (FnM.lift (by omega) (by omega) (o_l_some X G c cb k)) (fnCons (FnM.lift (by omega) (by omega) (o_l_spans X G c cb k)) (fnNil))
  at_ := atNil
  me := meNil
  mks := mksNil
theorem o_l_single (X : K.In h) (G : h.Ns mainGlobals mg) (c : He.SaysD fa fn K) (cb : bs K = true) (k : Nat) : FnM P w K mg base (k + 2) (gN defs noE (k + 2)) "_law_single" 3 := by
  obtain ⟨fd, F⟩ := c.def_ 5 (d := d_l_single) rfl
  exact fn_m0 F (He.glo_ok X G (c.fact 10)) s_l_single rfl rfl rfl (m_l_single X G c cb k) e_l_single rfl rfl rfl rfl (FunD.bindsN (ps := p_l_single) F fun _ _ _ _ _ _ us hl => match us, hl with | [_, _, _], _ => rfl)
theorem m_l_rule (X : K.In h) (G : h.Ns mainGlobals mg) (c : He.SaysD fa fn K) (cb : bs K = true) (k : Nat) : ModOk P w K mg base (k + 2) (gN defs noE (k + 2)) c_l_rule where
  con := conNil
  fr := frCons (He.free_ok X G (c.fact 7)) (frCons (He.free_ok X G (c.fact 9)) (frCons (He.free_ok X G (c.fact 2)) (frNil)))
  fn := fnCons (FnM.lift (by omega) (by omega) (o_l_single X G c cb k)) (fnCons (FnM.lift (by omega) (by omega) (o_l_some X G c cb (k + 1))) (fnCons (FnM.lift (by omega) (by omega) (o_l_spans X G c cb (k + 1))) (fnNil)))
  at_ := atNil
  me := meNil
  mks := mksNil
theorem o_l_rule (X : K.In h) (G : h.Ns mainGlobals mg) (c : He.SaysD fa fn K) (cb : bs K = true) (k : Nat) : FnM P w K mg base (k + 3) (gN defs noE (k + 3)) "_law_rule" 3 := by
  obtain ⟨fd, F⟩ := c.def_ 6 (d := d_l_rule) rfl
  exact fn_m0 F (He.glo_ok X G (c.fact 11)) s_l_rule rfl rfl rfl (m_l_rule X G c cb k) e_l_rule rfl rfl rfl rfl (FunD.bindsN (ps := p_l_rule) F fun _ _ _ _ _ _ us hl => match us, hl with | [_, _, _], _ => rfl)
theorem m_l_size (X : K.In h) (G : h.Ns mainGlobals mg) (c : He.SaysD fa fn K) (cb : bs K = true) (k : Nat) : ModOk P w K mg base (k + 0) (gN defs noE (k + 0)) c_l_size where
  con := conNil
  fr := frNil
  fn := fnNil
  at_ := atNil
  me := meNil
  mks := mksNil
theorem o_l_size (X : K.In h) (G : h.Ns mainGlobals mg) (c : He.SaysD fa fn K) (cb : bs K = true) (k : Nat) : FnM P w K mg base (k + 1) (gN defs noE (k + 1)) "_law_size" 1 := by
  obtain ⟨fd, F⟩ := c.def_ 7 (d := d_l_size) rfl
  exact fn_m0 F (He.glo_ok X G (c.fact 12)) s_l_size rfl rfl rfl (m_l_size X G c cb k) e_l_size rfl rfl rfl rfl (FunD.bindsN (ps := p_l_size) F fun _ _ _ _ _ _ us hl => match us, hl with | [_], _ => rfl)
theorem m_l_rules (X : K.In h) (G : h.Ns mainGlobals mg) (c : He.SaysD fa fn K) (cb : bs K = true) (k : Nat) : ModOk P w K mg base (k + 3) (gN defs noE (k + 3)) c_l_rules where
  con := conNil
  fr := frCons (He.free_ok X G (c.fact 2)) (frNil)
  fn := fnCons (FnM.lift (by omega) (by omega) (o_l_got X G c cb (k + 1))) (fnCons (FnM.lift (by omega) (by omega) (o_l_rule X G c cb k)) (fnCons (FnM.lift (by omega) (by omega) (o_l_size X G c cb (k + 2))) (fnNil)))
  at_ := atNil
  me := meNil
  mks := mksNil
theorem o_l_rules (X : K.In h) (G : h.Ns mainGlobals mg) (c : He.SaysD fa fn K) (cb : bs K = true) (k : Nat) : FnM P w K mg base (k + 4) (gN defs noE (k + 4)) "_law_rules" 2 := by
  obtain ⟨fd, F⟩ := c.def_ 8 (d := d_l_rules) rfl
  exact fn_m0 F (He.glo_ok X G (c.fact 13)) s_l_rules rfl rfl rfl (m_l_rules X G c cb k) e_l_rules rfl rfl rfl rfl (FunD.bindsN (ps := p_l_rules) F fun _ _ _ _ _ _ us hl => match us, hl with | [_, _], _ => rfl)
theorem m_l_cells (X : K.In h) (G : h.Ns mainGlobals mg) (c : He.SaysD fa fn K) (cb : bs K = true) (k : Nat) : ModOk P w K mg base (k + 2) (gN defs noE (k + 2)) c_l_cells where
  con := conNil
  fr := frCons (He.free_ok X G (c.fact 7)) (frCons (He.free_ok X G (c.fact 15)) (frCons (He.free_ok X G (c.fact 2)) (frNil)))
  fn := fnCons (FnM.lift (by omega) (by omega) (o_l_got X G c cb k)) (fnNil)
  at_ := atNil
  me := meNil
  mks := mksNil
theorem o_l_cells (X : K.In h) (G : h.Ns mainGlobals mg) (c : He.SaysD fa fn K) (cb : bs K = true) (k : Nat) : FnM P w K mg base (k + 3) (gN defs noE (k + 3)) "_law_cells" 3 := by
  obtain ⟨fd, F⟩ := c.def_ 9 (d := d_l_cells) rfl
  exact fn_m0 F (He.glo_ok X G (c.fact 14)) s_l_cells rfl rfl rfl (m_l_cells X G c cb k) e_l_cells rfl rfl rfl rfl (FunD.bindsN (ps := p_l_cells) F fun _ _ _ _ _ _ us hl => match us, hl with | [_, _, _], _ => rfl)
theorem m_l_column (X : K.In h) (G : h.Ns mainGlobals mg) (c : He.SaysD fa fn K) (cb : bs K = true) (k : Nat) : ModOk P w K mg base (k + 0) (gN defs noE (k + 0)) c_l_column where
  con := conNil
  fr := frCons (He.free_ok X G (c.fact 1)) (frCons (He.free_ok X G (c.fact 17)) (frNil))
  fn := fnNil
  at_ := atNil
  me := meNil
  mks := mksNil
theorem o_l_column (X : K.In h) (G : h.Ns mainGlobals mg) (c : He.SaysD fa fn K) (cb : bs K = true) (k : Nat) : FnM P w K mg base (k + 1) (gN defs noE (k + 1)) "_law_column" 2 := by
  obtain ⟨fd, F⟩ := c.def_ 10 (d := d_l_column) rfl
  exact fn_m0 F (He.glo_ok X G (c.fact 16)) s_l_column rfl rfl rfl (m_l_column X G c cb k) e_l_column rfl rfl rfl rfl (FunD.bindsN (ps := p_l_column) F fun _ _ _ _ _ _ us hl => match us, hl with | [_, _], _ => rfl)
theorem m_l_one_column (X : K.In h) (G : h.Ns mainGlobals mg) (c : He.SaysD fa fn K) (cb : bs K = true) (k : Nat) : ModOk P w K mg base (k + 0) (gN defs noE (k + 0)) c_l_one_column where
  con := conNil
  fr := frNil
  fn := fnNil
  at_ := atNil
  me := meNil
  mks := mksNil
theorem o_l_one_column (X : K.In h) (G : h.Ns mainGlobals mg) (c : He.SaysD fa fn K) (cb : bs K = true) (k : Nat) : FnM P w K mg base (k + 1) (gN defs noE (k + 1)) "_law_one_column" 2 := by
  obtain ⟨fd, F⟩ := c.def_ 11 (d := d_l_one_column) rfl
  exact fn_m0 F (He.glo_ok X G (c.fact 18)) s_l_one_column rfl rfl rfl (m_l_one_column X G c cb k) e_l_one_column rfl rfl rfl rfl (FunD.bindsN (ps := p_l_one_column) F fun _ _ _ _ _ _ us hl => match us, hl with | [_, _], _ => rfl)
theorem m_l_two_columns (X : K.In h) (G : h.Ns mainGlobals mg) (c : He.SaysD fa fn K) (cb : bs K = true) (k : Nat) : ModOk P w K mg base (k + 0) (gN defs noE (k + 0)) c_l_two_columns where
  con := conNil
  fr := frNil
  fn := fnNil
  at_ := atNil
  me := meNil
  mks := mksNil
theorem o_l_two_columns (X : K.In h) (G : h.Ns mainGlobals mg) (c : He.SaysD fa fn K) (cb : bs K = true) (k : Nat) : FnM P w K mg base (k + 1) (gN defs noE (k + 1)) "_law_two_columns" 3 := by
  obtain ⟨fd, F⟩ := c.def_ 12 (d := d_l_two_columns) rfl
  exact fn_m0 F (He.glo_ok X G (c.fact 19)) s_l_two_columns rfl rfl rfl (m_l_two_columns X G c cb k) e_l_two_columns rfl rfl rfl rfl (FunD.bindsN (ps := p_l_two_columns) F fun _ _ _ _ _ _ us hl => match us, hl with | [_, _, _], _ => rfl)
theorem m_l_one_voice (X : K.In h) (G : h.Ns mainGlobals mg) (c : He.SaysD fa fn K) (cb : bs K = true) (k : Nat) : ModOk P w K mg base (k + 0) (gN defs noE (k + 0)) c_l_one_voice where
  con := conNil
  fr := frNil
  fn := fnNil
  at_ := atNil
  me := meNil
  mks := mksNil
theorem o_l_one_voice (X : K.In h) (G : h.Ns mainGlobals mg) (c : He.SaysD fa fn K) (cb : bs K = true) (k : Nat) : FnM P w K mg base (k + 1) (gN defs noE (k + 1)) "_law_one_voice" 3 := by
  obtain ⟨fd, F⟩ := c.def_ 13 (d := d_l_one_voice) rfl
  exact fn_m0 F (He.glo_ok X G (c.fact 20)) s_l_one_voice rfl rfl rfl (m_l_one_voice X G c cb k) e_l_one_voice rfl rfl rfl rfl (FunD.bindsN (ps := p_l_one_voice) F fun _ _ _ _ _ _ us hl => match us, hl with | [_, _, _], _ => rfl)
theorem m_l_broken (X : K.In h) (G : h.Ns mainGlobals mg) (c : He.SaysD fa fn K) (cb : bs K = true) (k : Nat) : ModOk P w K mg base (k + 1) (gN defs noE (k + 1)) c_l_broken where
  con := conNil
  fr := frNil
  fn := fnCons (FnM.lift (by omega) (by omega) (o_l_one_column X G c cb k)) (fnCons (FnM.lift (by omega) (by omega) (o_l_two_columns X G c cb k)) (fnCons (FnM.lift (by omega) (by omega) (o_l_one_voice X G c cb k)) (fnNil)))
  at_ := atNil
  me := meNil
  mks := mksNil
theorem o_l_broken (X : K.In h) (G : h.Ns mainGlobals mg) (c : He.SaysD fa fn K) (cb : bs K = true) (k : Nat) : FnM P w K mg base (k + 2) (gN defs noE (k + 2)) "_law_broken" 3 := by
  obtain ⟨fd, F⟩ := c.def_ 14 (d := d_l_broken) rfl
  exact fn_m0 F (He.glo_ok X G (c.fact 21)) s_l_broken rfl rfl rfl (m_l_broken X G c cb k) e_l_broken rfl rfl rfl rfl (FunD.bindsN (ps := p_l_broken) F fun _ _ _ _ _ _ us hl => match us, hl with | [_, _, _], _ => rfl)
theorem m_l_row_at (X : K.In h) (G : h.Ns mainGlobals mg) (c : He.SaysD fa fn K) (cb : bs K = true) (k : Nat) : ModOk P w K mg base (k + 2) (gN defs noE (k + 2)) c_l_row_at where
  con := conNil
  fr := frCons (He.free_ok X G (c.fact 7)) (frCons (He.free_ok X G (c.fact 2)) (frNil))
  fn := fnCons (FnM.lift (by omega) (by omega) (o_l_broken X G c cb k)) (fnNil)
  at_ := atNil
  me := meNil
  mks := mksNil
theorem o_l_row_at (X : K.In h) (G : h.Ns mainGlobals mg) (c : He.SaysD fa fn K) (cb : bs K = true) (k : Nat) : FnM P w K mg base (k + 3) (gN defs noE (k + 3)) "_law_row_at" 4 := by
  obtain ⟨fd, F⟩ := c.def_ 15 (d := d_l_row_at) rfl
  exact fn_m0 F (He.glo_ok X G (c.fact 22)) s_l_row_at rfl rfl rfl (m_l_row_at X G c cb k) e_l_row_at rfl rfl rfl rfl (FunD.bindsN (ps := p_l_row_at) F fun _ _ _ _ _ _ us hl => match us, hl with | [_, _, _, _], _ => rfl)
theorem m_l_line (X : K.In h) (G : h.Ns mainGlobals mg) (c : He.SaysD fa fn K) (cb : bs K = true) (k : Nat) : ModOk P w K mg base (k + 3) (gN defs noE (k + 3)) c_l_line where
  con := conNil
  fr := frCons (He.free_ok X G (c.fact 7)) (frCons (He.free_ok X G (c.fact 9)) (frCons (He.free_ok X G (c.fact 15)) (frCons (He.free_ok X G (c.fact 2)) (frCons (He.free_ok X G (c.fact 17)) (frNil)))))
  fn := fnCons (FnM.lift (by omega) (by omega) (o_l_cells X G c cb k)) (fnCons (FnM.lift (by omega) (by omega) (o_l_column X G c cb (k + 2))) (fnCons (FnM.lift (by omega) (by omega) (o_l_row_at X G c cb k)) (fnCons (FnM.lift (by omega) (by omega) (o_l_got X G c cb (k + 1))) (fnNil))))
  at_ := atNil
  me := meNil
  mks := mksNil
theorem o_l_line (X : K.In h) (G : h.Ns mainGlobals mg) (c : He.SaysD fa fn K) (cb : bs K = true) (k : Nat) : FnM P w K mg base (k + 4) (gN defs noE (k + 4)) "_law_line" 3 := by
  obtain ⟨fd, F⟩ := c.def_ 16 (d := d_l_line) rfl
  exact fn_m0 F (He.glo_ok X G (c.fact 23)) s_l_line rfl rfl rfl (m_l_line X G c cb k) e_l_line rfl rfl rfl rfl (FunD.bindsN (ps := p_l_line) F fun _ _ _ _ _ _ us hl => match us, hl with | [_, _, _], _ => rfl)
theorem m_is_number (X : K.In h) (G : h.Ns mainGlobals mg) (c : He.SaysD fa fn K) (cb : bs K = true) (k : Nat) : ModOk P w K mg base (k + 0) (gN defs noE (k + 0)) c_is_number where
  con := conCons (by obtain ⟨t, e⟩ := He.str_ok X G (c.fact 25); exact ⟨_, e, ⟨t, rfl⟩⟩) (conCons (by obtain ⟨t, e⟩ := He.int_ok X G (c.fact 26); exact ⟨_, e, ⟨t, rfl⟩⟩) (conNil))
  fr := frCons (He.free_ok X G (c.fact 7)) (frNil)
  fn := fnNil
  at_ := atNil
  me := meNil
  mks := mksNil
theorem o_is_number (X : K.In h) (G : h.Ns mainGlobals mg) (c : He.SaysD fa fn K) (cb : bs K = true) (k : Nat) : FnM P w K mg base (k + 1) (gN defs noE (k + 1)) "is_number" 1 := by
  obtain ⟨fd, F⟩ := c.def_ 17 (d := d_is_number) rfl
  exact fn_m0 F (He.glo_ok X G (c.fact 24)) s_is_number rfl rfl rfl (m_is_number X G c cb k) e_is_number rfl rfl rfl rfl (FunD.bindsN (ps := p_is_number) F fun _ _ _ _ _ _ us hl => match us, hl with | [_], _ => rfl)
theorem m_read_range (X : K.In h) (G : h.Ns mainGlobals mg) (c : He.SaysD fa fn K) (cb : bs K = true) (k : Nat) : ModOk P w K mg base (k + 1) (gN defs noE (k + 1)) c_read_range where
  con := conNil
  fr := frCons (He.free_ok X G (c.fact 28)) (frCons (He.free_ok X G (c.fact 7)) (frNil))
  fn := fnCons (FnM.lift (by omega) (by omega) (o_is_number X G c cb k)) (fnNil)
  at_ := atNil
  me := meNil
  mks := mksNil
theorem o_read_range (X : K.In h) (G : h.Ns mainGlobals mg) (c : He.SaysD fa fn K) (cb : bs K = true) (k : Nat) : FnM P w K mg base (k + 2) (gN defs noE (k + 2)) "read_range" 2 := by
  obtain ⟨fd, F⟩ := c.def_ 18 (d := d_read_range) rfl
  exact fn_m0 F (He.glo_ok X G (c.fact 27)) s_read_range rfl rfl rfl (m_read_range X G c cb k) e_read_range rfl rfl rfl rfl (FunD.bindsN (ps := p_read_range) F fun _ _ _ _ _ _ us hl => match us, hl with | [_, _], _ => rfl)
theorem m_look_at (X : K.In h) (G : h.Ns mainGlobals mg) (c : He.SaysD fa fn K) (cb : bs K = true) (k : Nat) : ModOk P w K mg base (k + 0) (gN defs noE (k + 0)) c_look_at where
  con := conNil
  fr := frNil
  fn := fnNil
  at_ := atNil
  me := meNil
  mks := mksNil
theorem o_look_at (X : K.In h) (G : h.Ns mainGlobals mg) (c : He.SaysD fa fn K) (cb : bs K = true) (k : Nat) : FnM P w K mg base (k + 1) (gN defs noE (k + 1)) "look_at" 2 := by
  obtain ⟨fd, F⟩ := c.def_ 19 (d := d_look_at) rfl
  exact fn_m0 F (He.glo_ok X G (c.fact 29)) s_look_at rfl rfl rfl (m_look_at X G c cb k) e_look_at rfl rfl rfl rfl (FunD.bindsN (ps := p_look_at) F fun _ _ _ _ _ _ us hl => match us, hl with | [_, _], _ => rfl)
theorem m_numbers_of (X : K.In h) (G : h.Ns mainGlobals mg) (c : He.SaysD fa fn K) (cb : bs K = true) (k : Nat) : ModOk P w K mg base (k + 1) (gN defs noE (k + 1)) c_numbers_of where
  con := conNil
  fr := frCons (He.free_ok X G (c.fact 28)) (frNil)
  fn := fnCons (FnM.lift (by omega) (by omega) (o_is_number X G c cb k)) (fnNil)
  at_ := atNil
  me := meNil
  mks := mksNil
theorem o_numbers_of (X : K.In h) (G : h.Ns mainGlobals mg) (c : He.SaysD fa fn K) (cb : bs K = true) (k : Nat) : FnM P w K mg base (k + 2) (gN defs noE (k + 2)) "numbers_of" 2 := by
  obtain ⟨fd, F⟩ := c.def_ 20 (d := d_numbers_of) rfl
  exact fn_m0 F (He.glo_ok X G (c.fact 30)) s_numbers_of rfl rfl rfl (m_numbers_of X G c cb k) e_numbers_of rfl rfl rfl rfl (FunD.bindsN (ps := p_numbers_of) F fun _ _ _ _ _ _ us hl => match us, hl with | [_, _], _ => rfl)
theorem m_some_of (X : K.In h) (G : h.Ns mainGlobals mg) (c : He.SaysD fa fn K) (cb : bs K = true) (k : Nat) : ModOk P w K mg base (k + 0) (gN defs noE (k + 0)) c_some_of where
  con := conCons (by obtain ⟨t, e⟩ := He.int_ok X G (c.fact 32); exact ⟨_, e, ⟨t, rfl⟩⟩) (conNil)
  fr := frCons (He.free_ok X G (c.fact 7)) (frCons (He.free_ok X G (c.fact 9)) (frNil))
  fn := fnNil
  at_ := atNil
  me := meNil
  mks := mksNil
theorem o_some_of (X : K.In h) (G : h.Ns mainGlobals mg) (c : He.SaysD fa fn K) (cb : bs K = true) (k : Nat) : FnM P w K mg base (k + 1) (gN defs noE (k + 1)) "some_of" 2 := by
  obtain ⟨fd, F⟩ := c.def_ 21 (d := d_some_of) rfl
  exact fn_m0 F (He.glo_ok X G (c.fact 31)) s_some_of rfl rfl rfl (m_some_of X G c cb k) e_some_of rfl rfl rfl rfl (FunD.bindsN (ps := p_some_of) F fun _ _ _ _ _ _ us hl => match us, hl with | [_, _], _ => rfl)
theorem m_Rule_init (X : K.In h) (G : h.Ns mainGlobals mg) (c : He.SaysD fa fn K) (cb : bs K = true) (k : Nat) : ModOk P w K mg base (k + 0) (gN defs noE (k + 0)) c_Rule_init where
  con := conNil
  fr := frNil
  fn := fnNil
  at_ := atCons ⟨He.cls_ok (c.fact 33), He.noat_ok (c.fact 34)⟩ (atCons ⟨He.cls_ok (c.fact 35), He.noat_ok (c.fact 36)⟩ (atCons ⟨He.cls_ok (c.fact 37), He.noat_ok (c.fact 38)⟩ (atCons ⟨He.cls_ok (c.fact 39), He.noat_ok (c.fact 40)⟩ (atCons ⟨He.cls_ok (c.fact 41), He.noat_ok (c.fact 42)⟩ (atCons ⟨He.cls_ok (c.fact 43), He.noat_ok (c.fact 44)⟩ (atCons ⟨He.cls_ok (c.fact 45), He.noat_ok (c.fact 46)⟩ (atCons ⟨He.cls_ok (c.fact 47), He.noat_ok (c.fact 48)⟩ (atCons ⟨He.cls_ok (c.fact 49), He.noat_ok (c.fact 50)⟩ (atCons ⟨He.cls_ok (c.fact 51), He.noat_ok (c.fact 52)⟩ (atCons ⟨He.cls_ok (c.fact 53), He.noat_ok (c.fact 54)⟩ (atNil)))))))))))
  me := meNil
  mks := mksNil
theorem b_Rule_init (X : K.In h) (G : h.Ns mainGlobals mg) (c : He.SaysD fa fn K) (cb : bs K = true) (k : Nat) : ∀ z n, c_Rule_init.bas.contains (z, n) = true → IniM P w K mg base (k + 0) (gN defs noE (k + 0)) z n := basNil
theorem i_Rule_init (X : K.In h) (G : h.Ns mainGlobals mg) (c : He.SaysD fa fn K) (cb : bs K = true) (k : Nat) : IniM P w K mg base (k + 1) (gN defs noE (k + 1)) "Rule" 1 := by
  obtain ⟨fd, F⟩ := c.def_ 22 (d := d_Rule_init) rfl
  exact ini_m F (basB_ok (bas_Rule cb)).1 (basB_ok (bas_Rule cb)).2 (He.glo_ok X G (c.fact 58)) s_Rule_init rfl rfl rfl (m_Rule_init X G c cb k) (b_Rule_init X G c cb k) e_Rule_init rfl rfl rfl rfl rfl (FunD.bindsN (ps := p_Rule_init) F fun _ _ _ _ _ _ us hl => match us, hl with | [_, _], _ => rfl)
theorem m_Span_init (X : K.In h) (G : h.Ns mainGlobals mg) (c : He.SaysD fa fn K) (cb : bs K = true) (k : Nat) : ModOk P w K mg base (k + 1) (gN defs noE (k + 1)) c_Span_init where
  con := conNil
  fr := frNil
  fn := fnNil
  at_ := atCons ⟨He.cls_ok (c.fact 35), He.noat_ok (c.fact 55)⟩ (atCons ⟨He.cls_ok (c.fact 35), He.noat_ok (c.fact 56)⟩ (atCons ⟨He.cls_ok (c.fact 35), He.noat_ok (c.fact 57)⟩ (atNil)))
  me := meNil
  mks := mksNil
theorem b_Span_init (X : K.In h) (G : h.Ns mainGlobals mg) (c : He.SaysD fa fn K) (cb : bs K = true) (k : Nat) : ∀ z n, c_Span_init.bas.contains (z, n) = true → IniM P w K mg base (k + 1) (gN defs noE (k + 1)) z n := basCons (IniM.lift (by omega) (by omega) (i_Rule_init X G c cb k)) (basNil)
theorem k_Span_init (X : K.In h) (G : h.Ns mainGlobals mg) (c : He.SaysD fa fn K) (cb : bs K = true) (k : Nat) : MkM P w K mg base (k + 3) (gN defs noE (k + 2)) "Span" 4 := by
  obtain ⟨fd, F⟩ := c.def_ 23 (d := d_Span_init) rfl
  exact mk_m F (He.mkr_ok (c.fact 64)) (He.glo_ok X G (c.fact 65)) s_Span_init rfl rfl rfl (m_Span_init X G c cb k) (b_Span_init X G c cb k) e_Span_init rfl rfl rfl rfl rfl (FunD.bindsN (ps := p_Span_init) F fun _ _ _ _ _ _ us hl => match us, hl with | [_, _, _, _, _], _ => rfl)
theorem m_Clock_init (X : K.In h) (G : h.Ns mainGlobals mg) (c : He.SaysD fa fn K) (cb : bs K = true) (k : Nat) : ModOk P w K mg base (k + 1) (gN defs noE (k + 1)) c_Clock_init where
  con := conNil
  fr := frNil
  fn := fnNil
  at_ := atCons ⟨He.cls_ok (c.fact 37), He.noat_ok (c.fact 59)⟩ (atCons ⟨He.cls_ok (c.fact 37), He.noat_ok (c.fact 60)⟩ (atCons ⟨He.cls_ok (c.fact 37), He.noat_ok (c.fact 61)⟩ (atCons ⟨He.cls_ok (c.fact 37), He.noat_ok (c.fact 62)⟩ (atNil))))
  me := meNil
  mks := mksNil
theorem b_Clock_init (X : K.In h) (G : h.Ns mainGlobals mg) (c : He.SaysD fa fn K) (cb : bs K = true) (k : Nat) : ∀ z n, c_Clock_init.bas.contains (z, n) = true → IniM P w K mg base (k + 1) (gN defs noE (k + 1)) z n := basCons (IniM.lift (by omega) (by omega) (i_Rule_init X G c cb k)) (basNil)
theorem k_Clock_init (X : K.In h) (G : h.Ns mainGlobals mg) (c : He.SaysD fa fn K) (cb : bs K = true) (k : Nat) : MkM P w K mg base (k + 3) (gN defs noE (k + 2)) "Clock" 5 := by
  obtain ⟨fd, F⟩ := c.def_ 24 (d := d_Clock_init) rfl
  exact mk_m F (He.mkr_ok (c.fact 66)) (He.glo_ok X G (c.fact 67)) s_Clock_init rfl rfl rfl (m_Clock_init X G c cb k) (b_Clock_init X G c cb k) e_Clock_init rfl rfl rfl rfl rfl (FunD.bindsN (ps := p_Clock_init) F fun _ _ _ _ _ _ us hl => match us, hl with | [_, _, _, _, _, _], _ => rfl)
theorem m_column_rule (X : K.In h) (G : h.Ns mainGlobals mg) (c : He.SaysD fa fn K) (cb : bs K = true) (k : Nat) : ModOk P w K mg base (k + 3) (gN defs noE (k + 2)) c_column_rule where
  con := conNil
  fr := frCons (He.free_ok X G (c.fact 7)) (frNil)
  fn := fnCons (FnM.lift (by omega) (by omega) (o_look_at X G c cb (k + 1))) (fnCons (FnM.lift (by omega) (by omega) (o_some_of X G c cb (k + 1))) (fnNil))
  at_ := atNil
  me := meNil
  mks := mksCons (MkM.lift (by omega) (by omega) (k_Span_init X G c cb k)) (mksCons (MkM.lift (by omega) (by omega) (k_Clock_init X G c cb k)) (mksNil))
theorem o_column_rule (X : K.In h) (G : h.Ns mainGlobals mg) (c : He.SaysD fa fn K) (cb : bs K = true) (k : Nat) : FnM P w K mg base (k + 4) (gN defs noE (k + 3)) "column_rule" 5 := by
  obtain ⟨fd, F⟩ := c.def_ 25 (d := d_column_rule) rfl
  exact fn_m0 F (He.glo_ok X G (c.fact 63)) s_column_rule rfl rfl rfl (m_column_rule X G c cb k) e_column_rule rfl rfl rfl rfl (FunD.bindsN (ps := p_column_rule) F fun _ _ _ _ _ _ us hl => match us, hl with | [_, _, _, _, _], _ => rfl)
theorem m_Every_init (X : K.In h) (G : h.Ns mainGlobals mg) (c : He.SaysD fa fn K) (cb : bs K = true) (k : Nat) : ModOk P w K mg base (k + 1) (gN defs noE (k + 1)) c_Every_init where
  con := conNil
  fr := frNil
  fn := fnNil
  at_ := atCons ⟨He.cls_ok (c.fact 49), He.noat_ok (c.fact 68)⟩ (atCons ⟨He.cls_ok (c.fact 49), He.noat_ok (c.fact 69)⟩ (atCons ⟨He.cls_ok (c.fact 49), He.noat_ok (c.fact 70)⟩ (atNil)))
  me := meNil
  mks := mksNil
theorem b_Every_init (X : K.In h) (G : h.Ns mainGlobals mg) (c : He.SaysD fa fn K) (cb : bs K = true) (k : Nat) : ∀ z n, c_Every_init.bas.contains (z, n) = true → IniM P w K mg base (k + 1) (gN defs noE (k + 1)) z n := basCons (IniM.lift (by omega) (by omega) (i_Rule_init X G c cb k)) (basNil)
theorem k_Every_init (X : K.In h) (G : h.Ns mainGlobals mg) (c : He.SaysD fa fn K) (cb : bs K = true) (k : Nat) : MkM P w K mg base (k + 3) (gN defs noE (k + 2)) "Every" 4 := by
  obtain ⟨fd, F⟩ := c.def_ 26 (d := d_Every_init) rfl
  exact mk_m F (He.mkr_ok (c.fact 72)) (He.glo_ok X G (c.fact 73)) s_Every_init rfl rfl rfl (m_Every_init X G c cb k) (b_Every_init X G c cb k) e_Every_init rfl rfl rfl rfl rfl (FunD.bindsN (ps := p_Every_init) F fun _ _ _ _ _ _ us hl => match us, hl with | [_, _, _, _, _], _ => rfl)
theorem m_every_rule (X : K.In h) (G : h.Ns mainGlobals mg) (c : He.SaysD fa fn K) (cb : bs K = true) (k : Nat) : ModOk P w K mg base (k + 4) (gN defs noE (k + 3)) c_every_rule where
  con := conNil
  fr := frCons (He.free_ok X G (c.fact 7)) (frNil)
  fn := fnCons (FnM.lift (by omega) (by omega) (o_look_at X G c cb (k + 2))) (fnCons (FnM.lift (by omega) (by omega) (o_numbers_of X G c cb (k + 1))) (fnCons (FnM.lift (by omega) (by omega) (o_column_rule X G c cb k)) (fnNil)))
  at_ := atNil
  me := meNil
  mks := mksCons (MkM.lift (by omega) (by omega) (k_Every_init X G c cb (k + 1))) (mksNil)
theorem o_every_rule (X : K.In h) (G : h.Ns mainGlobals mg) (c : He.SaysD fa fn K) (cb : bs K = true) (k : Nat) : FnM P w K mg base (k + 5) (gN defs noE (k + 4)) "every_rule" 4 := by
  obtain ⟨fd, F⟩ := c.def_ 27 (d := d_every_rule) rfl
  exact fn_m0 F (He.glo_ok X G (c.fact 71)) s_every_rule rfl rfl rfl (m_every_rule X G c cb k) e_every_rule rfl rfl rfl rfl (FunD.bindsN (ps := p_every_rule) F fun _ _ _ _ _ _ us hl => match us, hl with | [_, _, _, _], _ => rfl)
theorem m_Alike_init (X : K.In h) (G : h.Ns mainGlobals mg) (c : He.SaysD fa fn K) (cb : bs K = true) (k : Nat) : ModOk P w K mg base (k + 1) (gN defs noE (k + 1)) c_Alike_init where
  con := conNil
  fr := frNil
  fn := fnNil
  at_ := atCons ⟨He.cls_ok (c.fact 53), He.noat_ok (c.fact 74)⟩ (atCons ⟨He.cls_ok (c.fact 53), He.noat_ok (c.fact 75)⟩ (atCons ⟨He.cls_ok (c.fact 53), He.noat_ok (c.fact 76)⟩ (atNil)))
  me := meNil
  mks := mksNil
theorem b_Alike_init (X : K.In h) (G : h.Ns mainGlobals mg) (c : He.SaysD fa fn K) (cb : bs K = true) (k : Nat) : ∀ z n, c_Alike_init.bas.contains (z, n) = true → IniM P w K mg base (k + 1) (gN defs noE (k + 1)) z n := basCons (IniM.lift (by omega) (by omega) (i_Rule_init X G c cb k)) (basNil)
theorem k_Alike_init (X : K.In h) (G : h.Ns mainGlobals mg) (c : He.SaysD fa fn K) (cb : bs K = true) (k : Nat) : MkM P w K mg base (k + 3) (gN defs noE (k + 2)) "Alike" 4 := by
  obtain ⟨fd, F⟩ := c.def_ 28 (d := d_Alike_init) rfl
  exact mk_m F (He.mkr_ok (c.fact 78)) (He.glo_ok X G (c.fact 79)) s_Alike_init rfl rfl rfl (m_Alike_init X G c cb k) (b_Alike_init X G c cb k) e_Alike_init rfl rfl rfl rfl rfl (FunD.bindsN (ps := p_Alike_init) F fun _ _ _ _ _ _ us hl => match us, hl with | [_, _, _, _, _], _ => rfl)
theorem m_alike_rule (X : K.In h) (G : h.Ns mainGlobals mg) (c : He.SaysD fa fn K) (cb : bs K = true) (k : Nat) : ModOk P w K mg base (k + 3) (gN defs noE (k + 2)) c_alike_rule where
  con := conNil
  fr := frCons (He.free_ok X G (c.fact 7)) (frNil)
  fn := fnCons (FnM.lift (by omega) (by omega) (o_look_at X G c cb (k + 1))) (fnCons (FnM.lift (by omega) (by omega) (o_some_of X G c cb (k + 1))) (fnNil))
  at_ := atNil
  me := meNil
  mks := mksCons (MkM.lift (by omega) (by omega) (k_Alike_init X G c cb k)) (mksNil)
theorem o_alike_rule (X : K.In h) (G : h.Ns mainGlobals mg) (c : He.SaysD fa fn K) (cb : bs K = true) (k : Nat) : FnM P w K mg base (k + 4) (gN defs noE (k + 3)) "alike_rule" 4 := by
  obtain ⟨fd, F⟩ := c.def_ 29 (d := d_alike_rule) rfl
  exact fn_m0 F (He.glo_ok X G (c.fact 77)) s_alike_rule rfl rfl rfl (m_alike_rule X G c cb k) e_alike_rule rfl rfl rfl rfl (FunD.bindsN (ps := p_alike_rule) F fun _ _ _ _ _ _ us hl => match us, hl with | [_, _, _, _], _ => rfl)
theorem m_Move_init (X : K.In h) (G : h.Ns mainGlobals mg) (c : He.SaysD fa fn K) (cb : bs K = true) (k : Nat) : ModOk P w K mg base (k + 1) (gN defs noE (k + 1)) c_Move_init where
  con := conNil
  fr := frNil
  fn := fnNil
  at_ := atCons ⟨He.cls_ok (c.fact 51), He.noat_ok (c.fact 80)⟩ (atCons ⟨He.cls_ok (c.fact 51), He.noat_ok (c.fact 81)⟩ (atNil))
  me := meNil
  mks := mksNil
theorem b_Move_init (X : K.In h) (G : h.Ns mainGlobals mg) (c : He.SaysD fa fn K) (cb : bs K = true) (k : Nat) : ∀ z n, c_Move_init.bas.contains (z, n) = true → IniM P w K mg base (k + 1) (gN defs noE (k + 1)) z n := basCons (IniM.lift (by omega) (by omega) (i_Rule_init X G c cb k)) (basNil)
theorem k_Move_init (X : K.In h) (G : h.Ns mainGlobals mg) (c : He.SaysD fa fn K) (cb : bs K = true) (k : Nat) : MkM P w K mg base (k + 3) (gN defs noE (k + 2)) "Move" 3 := by
  obtain ⟨fd, F⟩ := c.def_ 30 (d := d_Move_init) rfl
  exact mk_m F (He.mkr_ok (c.fact 95)) (He.glo_ok X G (c.fact 96)) s_Move_init rfl rfl rfl (m_Move_init X G c cb k) (b_Move_init X G c cb k) e_Move_init rfl rfl rfl rfl rfl (FunD.bindsN (ps := p_Move_init) F fun _ _ _ _ _ _ us hl => match us, hl with | [_, _, _, _], _ => rfl)
theorem m_Begin_init (X : K.In h) (G : h.Ns mainGlobals mg) (c : He.SaysD fa fn K) (cb : bs K = true) (k : Nat) : ModOk P w K mg base (k + 1) (gN defs noE (k + 1)) c_Begin_init where
  con := conNil
  fr := frNil
  fn := fnNil
  at_ := atCons ⟨He.cls_ok (c.fact 39), He.noat_ok (c.fact 82)⟩ (atCons ⟨He.cls_ok (c.fact 39), He.noat_ok (c.fact 83)⟩ (atNil))
  me := meNil
  mks := mksNil
theorem b_Begin_init (X : K.In h) (G : h.Ns mainGlobals mg) (c : He.SaysD fa fn K) (cb : bs K = true) (k : Nat) : ∀ z n, c_Begin_init.bas.contains (z, n) = true → IniM P w K mg base (k + 1) (gN defs noE (k + 1)) z n := basCons (IniM.lift (by omega) (by omega) (i_Rule_init X G c cb k)) (basNil)
theorem k_Begin_init (X : K.In h) (G : h.Ns mainGlobals mg) (c : He.SaysD fa fn K) (cb : bs K = true) (k : Nat) : MkM P w K mg base (k + 3) (gN defs noE (k + 2)) "Begin" 3 := by
  obtain ⟨fd, F⟩ := c.def_ 31 (d := d_Begin_init) rfl
  exact mk_m F (He.mkr_ok (c.fact 97)) (He.glo_ok X G (c.fact 98)) s_Begin_init rfl rfl rfl (m_Begin_init X G c cb k) (b_Begin_init X G c cb k) e_Begin_init rfl rfl rfl rfl rfl (FunD.bindsN (ps := p_Begin_init) F fun _ _ _ _ _ _ us hl => match us, hl with | [_, _, _, _], _ => rfl)
theorem m_Close_init (X : K.In h) (G : h.Ns mainGlobals mg) (c : He.SaysD fa fn K) (cb : bs K = true) (k : Nat) : ModOk P w K mg base (k + 1) (gN defs noE (k + 1)) c_Close_init where
  con := conNil
  fr := frNil
  fn := fnNil
  at_ := atCons ⟨He.cls_ok (c.fact 41), He.noat_ok (c.fact 84)⟩ (atCons ⟨He.cls_ok (c.fact 41), He.noat_ok (c.fact 85)⟩ (atNil))
  me := meNil
  mks := mksNil
theorem b_Close_init (X : K.In h) (G : h.Ns mainGlobals mg) (c : He.SaysD fa fn K) (cb : bs K = true) (k : Nat) : ∀ z n, c_Close_init.bas.contains (z, n) = true → IniM P w K mg base (k + 1) (gN defs noE (k + 1)) z n := basCons (IniM.lift (by omega) (by omega) (i_Rule_init X G c cb k)) (basNil)
theorem k_Close_init (X : K.In h) (G : h.Ns mainGlobals mg) (c : He.SaysD fa fn K) (cb : bs K = true) (k : Nat) : MkM P w K mg base (k + 3) (gN defs noE (k + 2)) "Close" 3 := by
  obtain ⟨fd, F⟩ := c.def_ 32 (d := d_Close_init) rfl
  exact mk_m F (He.mkr_ok (c.fact 99)) (He.glo_ok X G (c.fact 100)) s_Close_init rfl rfl rfl (m_Close_init X G c cb k) (b_Close_init X G c cb k) e_Close_init rfl rfl rfl rfl rfl (FunD.bindsN (ps := p_Close_init) F fun _ _ _ _ _ _ us hl => match us, hl with | [_, _, _, _], _ => rfl)
theorem m_Times_init (X : K.In h) (G : h.Ns mainGlobals mg) (c : He.SaysD fa fn K) (cb : bs K = true) (k : Nat) : ModOk P w K mg base (k + 1) (gN defs noE (k + 1)) c_Times_init where
  con := conNil
  fr := frNil
  fn := fnNil
  at_ := atCons ⟨He.cls_ok (c.fact 47), He.noat_ok (c.fact 86)⟩ (atCons ⟨He.cls_ok (c.fact 47), He.noat_ok (c.fact 87)⟩ (atCons ⟨He.cls_ok (c.fact 47), He.noat_ok (c.fact 88)⟩ (atCons ⟨He.cls_ok (c.fact 47), He.noat_ok (c.fact 89)⟩ (atNil))))
  me := meNil
  mks := mksNil
theorem b_Times_init (X : K.In h) (G : h.Ns mainGlobals mg) (c : He.SaysD fa fn K) (cb : bs K = true) (k : Nat) : ∀ z n, c_Times_init.bas.contains (z, n) = true → IniM P w K mg base (k + 1) (gN defs noE (k + 1)) z n := basCons (IniM.lift (by omega) (by omega) (i_Rule_init X G c cb k)) (basNil)
theorem k_Times_init (X : K.In h) (G : h.Ns mainGlobals mg) (c : He.SaysD fa fn K) (cb : bs K = true) (k : Nat) : MkM P w K mg base (k + 3) (gN defs noE (k + 2)) "Times" 5 := by
  obtain ⟨fd, F⟩ := c.def_ 33 (d := d_Times_init) rfl
  exact mk_m F (He.mkr_ok (c.fact 101)) (He.glo_ok X G (c.fact 102)) s_Times_init rfl rfl rfl (m_Times_init X G c cb k) (b_Times_init X G c cb k) e_Times_init rfl rfl rfl rfl rfl (FunD.bindsN (ps := p_Times_init) F fun _ _ _ _ _ _ us hl => match us, hl with | [_, _, _, _, _, _], _ => rfl)
theorem m_Back_init (X : K.In h) (G : h.Ns mainGlobals mg) (c : He.SaysD fa fn K) (cb : bs K = true) (k : Nat) : ModOk P w K mg base (k + 1) (gN defs noE (k + 1)) c_Back_init where
  con := conNil
  fr := frNil
  fn := fnNil
  at_ := atCons ⟨He.cls_ok (c.fact 43), He.noat_ok (c.fact 90)⟩ (atCons ⟨He.cls_ok (c.fact 43), He.noat_ok (c.fact 91)⟩ (atNil))
  me := meNil
  mks := mksNil
theorem b_Back_init (X : K.In h) (G : h.Ns mainGlobals mg) (c : He.SaysD fa fn K) (cb : bs K = true) (k : Nat) : ∀ z n, c_Back_init.bas.contains (z, n) = true → IniM P w K mg base (k + 1) (gN defs noE (k + 1)) z n := basCons (IniM.lift (by omega) (by omega) (i_Rule_init X G c cb k)) (basNil)
theorem k_Back_init (X : K.In h) (G : h.Ns mainGlobals mg) (c : He.SaysD fa fn K) (cb : bs K = true) (k : Nat) : MkM P w K mg base (k + 3) (gN defs noE (k + 2)) "Back" 3 := by
  obtain ⟨fd, F⟩ := c.def_ 34 (d := d_Back_init) rfl
  exact mk_m F (He.mkr_ok (c.fact 103)) (He.glo_ok X G (c.fact 104)) s_Back_init rfl rfl rfl (m_Back_init X G c cb k) (b_Back_init X G c cb k) e_Back_init rfl rfl rfl rfl rfl (FunD.bindsN (ps := p_Back_init) F fun _ _ _ _ _ _ us hl => match us, hl with | [_, _, _, _], _ => rfl)
theorem m_Held_init (X : K.In h) (G : h.Ns mainGlobals mg) (c : He.SaysD fa fn K) (cb : bs K = true) (k : Nat) : ModOk P w K mg base (k + 1) (gN defs noE (k + 1)) c_Held_init where
  con := conNil
  fr := frNil
  fn := fnNil
  at_ := atCons ⟨He.cls_ok (c.fact 45), He.noat_ok (c.fact 92)⟩ (atCons ⟨He.cls_ok (c.fact 45), He.noat_ok (c.fact 93)⟩ (atNil))
  me := meNil
  mks := mksNil
theorem b_Held_init (X : K.In h) (G : h.Ns mainGlobals mg) (c : He.SaysD fa fn K) (cb : bs K = true) (k : Nat) : ∀ z n, c_Held_init.bas.contains (z, n) = true → IniM P w K mg base (k + 1) (gN defs noE (k + 1)) z n := basCons (IniM.lift (by omega) (by omega) (i_Rule_init X G c cb k)) (basNil)
theorem k_Held_init (X : K.In h) (G : h.Ns mainGlobals mg) (c : He.SaysD fa fn K) (cb : bs K = true) (k : Nat) : MkM P w K mg base (k + 3) (gN defs noE (k + 2)) "Held" 3 := by
  obtain ⟨fd, F⟩ := c.def_ 35 (d := d_Held_init) rfl
  exact mk_m F (He.mkr_ok (c.fact 105)) (He.glo_ok X G (c.fact 106)) s_Held_init rfl rfl rfl (m_Held_init X G c cb k) (b_Held_init X G c cb k) e_Held_init rfl rfl rfl rfl rfl (FunD.bindsN (ps := p_Held_init) F fun _ _ _ _ _ _ us hl => match us, hl with | [_, _, _, _], _ => rfl)
theorem m_voice_rule (X : K.In h) (G : h.Ns mainGlobals mg) (c : He.SaysD fa fn K) (cb : bs K = true) (k : Nat) : ModOk P w K mg base (k + 3) (gN defs noE (k + 2)) c_voice_rule where
  con := conNil
  fr := frCons (He.free_ok X G (c.fact 7)) (frNil)
  fn := fnCons (FnM.lift (by omega) (by omega) (o_look_at X G c cb (k + 1))) (fnCons (FnM.lift (by omega) (by omega) (o_some_of X G c cb (k + 1))) (fnNil))
  at_ := atNil
  me := meNil
  mks := mksCons (MkM.lift (by omega) (by omega) (k_Move_init X G c cb k)) (mksCons (MkM.lift (by omega) (by omega) (k_Begin_init X G c cb k)) (mksCons (MkM.lift (by omega) (by omega) (k_Close_init X G c cb k)) (mksCons (MkM.lift (by omega) (by omega) (k_Times_init X G c cb k)) (mksCons (MkM.lift (by omega) (by omega) (k_Back_init X G c cb k)) (mksCons (MkM.lift (by omega) (by omega) (k_Held_init X G c cb k)) (mksNil))))))
theorem o_voice_rule (X : K.In h) (G : h.Ns mainGlobals mg) (c : He.SaysD fa fn K) (cb : bs K = true) (k : Nat) : FnM P w K mg base (k + 4) (gN defs noE (k + 3)) "voice_rule" 5 := by
  obtain ⟨fd, F⟩ := c.def_ 36 (d := d_voice_rule) rfl
  exact fn_m0 F (He.glo_ok X G (c.fact 94)) s_voice_rule rfl rfl rfl (m_voice_rule X G c cb k) e_voice_rule rfl rfl rfl rfl (FunD.bindsN (ps := p_voice_rule) F fun _ _ _ _ _ _ us hl => match us, hl with | [_, _, _, _, _], _ => rfl)
theorem m_read_rule (X : K.In h) (G : h.Ns mainGlobals mg) (c : He.SaysD fa fn K) (cb : bs K = true) (k : Nat) : ModOk P w K mg base (k + 5) (gN defs noE (k + 4)) c_read_rule where
  con := conNil
  fr := frNil
  fn := fnCons (FnM.lift (by omega) (by omega) (o_every_rule X G c cb k)) (fnCons (FnM.lift (by omega) (by omega) (o_numbers_of X G c cb (k + 2))) (fnCons (FnM.lift (by omega) (by omega) (o_column_rule X G c cb (k + 1))) (fnCons (FnM.lift (by omega) (by omega) (o_alike_rule X G c cb (k + 1))) (fnCons (FnM.lift (by omega) (by omega) (o_voice_rule X G c cb (k + 1))) (fnNil)))))
  at_ := atNil
  me := meNil
  mks := mksNil
theorem o_read_rule_2 (X : K.In h) (G : h.Ns mainGlobals mg) (c : He.SaysD fa fn K) (cb : bs K = true) (k : Nat) : FnM P w K mg base (k + 6) (gN defs noE (k + 5)) "read_rule" 2 := by
  obtain ⟨fd, F⟩ := c.def_ 37 (d := d_read_rule) rfl
  exact fn_m F (He.glo_ok X G (c.fact 107)) s_read_rule rfl rfl rfl (m_read_rule X G c cb k) e_read_rule rfl rfl rfl (by decide) (fun F => RpL.cons (show Rp K F (.int 0) (.int 0) from rp_int) (RpL.nil)) (FunD.binds1 F 2 0 (fun z => nomatch z) rfl fun _ _ _ _ _ _ _ us its hu hi => match us, hu, its, hi with | [_, _], _, [_], _ => ⟨_, rfl, rfl⟩)
theorem o_read_rule (X : K.In h) (G : h.Ns mainGlobals mg) (c : He.SaysD fa fn K) (cb : bs K = true) (k : Nat) : FnM P w K mg base (k + 6) (gN defs noE (k + 5)) "read_rule" 3 := by
  obtain ⟨fd, F⟩ := c.def_ 37 (d := d_read_rule) rfl
  exact fn_m F (He.glo_ok X G (c.fact 107)) s_read_rule rfl rfl rfl (m_read_rule X G c cb k) e_read_rule rfl rfl rfl (by decide) (fun F => RpL.cons (show Rp K F (.int 0) (.int 0) from rp_int) (RpL.nil)) (FunD.binds1 F 3 1 (fun z => nomatch z) rfl fun _ _ _ _ _ _ _ us its hu hi => match us, hu, its, hi with | [_, _, _], _, [_], _ => ⟨_, rfl, rfl⟩)
theorem m_Span_size (X : K.In h) (G : h.Ns mainGlobals mg) (c : He.SaysD fa fn K) (cb : bs K = true) (k : Nat) : ModOk P w K mg base (k + 0) (gN defs noE (k + 0)) c_Span_size where
  con := conNil
  fr := frNil
  fn := fnNil
  at_ := atNil
  me := meNil
  mks := mksNil
theorem o_Span_size (X : K.In h) (G : h.Ns mainGlobals mg) (c : He.SaysD fa fn K) (cb : bs K = true) (k : Nat) : MetM P w K mg base (k + 1) (gN defs noE (k + 1)) "Span" "size" 0 := by
  obtain ⟨fd, F⟩ := c.def_ 38 (d := d_Span_size) rfl
  exact met_m F (He.cls_ok (c.fact 35)) (He.meth_ok (c.fact 112)) s_Span_size rfl rfl rfl (m_Span_size X G c cb k) e_Span_size rfl rfl rfl rfl rfl (FunD.bindsN (ps := p_Span_size) F fun _ _ _ _ _ _ us hl => match us, hl with | [_], _ => rfl)
theorem o_Clock_size (X : K.In h) (G : h.Ns mainGlobals mg) (c : He.SaysD fa fn K) (cb : bs K = true) (k : Nat) : MetM P w K mg base (k + 1) (gN defs noE (k + 1)) "Clock" "size" 0 := by
  obtain ⟨fd, F⟩ := c.def_ 39 (d := d_Clock_size) rfl
  exact met_m F (He.cls_ok (c.fact 37)) (He.meth_ok (c.fact 113)) s_Span_size rfl rfl rfl (m_Span_size X G c cb k) e_Span_size rfl rfl rfl rfl rfl (FunD.bindsN (ps := p_Span_size) F fun _ _ _ _ _ _ us hl => match us, hl with | [_], _ => rfl)
theorem o_Begin_size (X : K.In h) (G : h.Ns mainGlobals mg) (c : He.SaysD fa fn K) (cb : bs K = true) (k : Nat) : MetM P w K mg base (k + 1) (gN defs noE (k + 1)) "Begin" "size" 0 := by
  obtain ⟨fd, F⟩ := c.def_ 40 (d := d_Begin_size) rfl
  exact met_m F (He.cls_ok (c.fact 39)) (He.meth_ok (c.fact 114)) s_Span_size rfl rfl rfl (m_Span_size X G c cb k) e_Span_size rfl rfl rfl rfl rfl (FunD.bindsN (ps := p_Span_size) F fun _ _ _ _ _ _ us hl => match us, hl with | [_], _ => rfl)
theorem o_Close_size (X : K.In h) (G : h.Ns mainGlobals mg) (c : He.SaysD fa fn K) (cb : bs K = true) (k : Nat) : MetM P w K mg base (k + 1) (gN defs noE (k + 1)) "Close" "size" 0 := by
  obtain ⟨fd, F⟩ := c.def_ 41 (d := d_Close_size) rfl
  exact met_m F (He.cls_ok (c.fact 41)) (He.meth_ok (c.fact 115)) s_Span_size rfl rfl rfl (m_Span_size X G c cb k) e_Span_size rfl rfl rfl rfl rfl (FunD.bindsN (ps := p_Span_size) F fun _ _ _ _ _ _ us hl => match us, hl with | [_], _ => rfl)
theorem m_Back_size (X : K.In h) (G : h.Ns mainGlobals mg) (c : He.SaysD fa fn K) (cb : bs K = true) (k : Nat) : ModOk P w K mg base (k + 0) (gN defs noE (k + 0)) c_Back_size where
  con := conNil
  fr := frNil
  fn := fnNil
  at_ := atNil
  me := meNil
  mks := mksNil
theorem o_Back_size (X : K.In h) (G : h.Ns mainGlobals mg) (c : He.SaysD fa fn K) (cb : bs K = true) (k : Nat) : MetM P w K mg base (k + 1) (gN defs noE (k + 1)) "Back" "size" 0 := by
  obtain ⟨fd, F⟩ := c.def_ 42 (d := d_Back_size) rfl
  exact met_m F (He.cls_ok (c.fact 43)) (He.meth_ok (c.fact 116)) s_Back_size rfl rfl rfl (m_Back_size X G c cb k) e_Back_size rfl rfl rfl rfl rfl (FunD.bindsN (ps := p_Back_size) F fun _ _ _ _ _ _ us hl => match us, hl with | [_], _ => rfl)
theorem m_Held_size (X : K.In h) (G : h.Ns mainGlobals mg) (c : He.SaysD fa fn K) (cb : bs K = true) (k : Nat) : ModOk P w K mg base (k + 0) (gN defs noE (k + 0)) c_Held_size where
  con := conNil
  fr := frNil
  fn := fnNil
  at_ := atCons ⟨He.cls_ok (c.fact 45), He.noat_ok (c.fact 93)⟩ (atNil)
  me := meNil
  mks := mksNil
theorem o_Held_size (X : K.In h) (G : h.Ns mainGlobals mg) (c : He.SaysD fa fn K) (cb : bs K = true) (k : Nat) : MetM P w K mg base (k + 1) (gN defs noE (k + 1)) "Held" "size" 0 := by
  obtain ⟨fd, F⟩ := c.def_ 43 (d := d_Held_size) rfl
  exact met_m F (He.cls_ok (c.fact 45)) (He.meth_ok (c.fact 117)) s_Held_size rfl rfl rfl (m_Held_size X G c cb k) e_Held_size rfl rfl rfl rfl rfl (FunD.bindsN (ps := p_Held_size) F fun _ _ _ _ _ _ us hl => match us, hl with | [_], _ => rfl)
theorem m_Times_size (X : K.In h) (G : h.Ns mainGlobals mg) (c : He.SaysD fa fn K) (cb : bs K = true) (k : Nat) : ModOk P w K mg base (k + 0) (gN defs noE (k + 0)) c_Times_size where
  con := conNil
  fr := frNil
  fn := fnNil
  at_ := atCons ⟨He.cls_ok (c.fact 47), He.noat_ok (c.fact 89)⟩ (atNil)
  me := meNil
  mks := mksNil
theorem o_Times_size (X : K.In h) (G : h.Ns mainGlobals mg) (c : He.SaysD fa fn K) (cb : bs K = true) (k : Nat) : MetM P w K mg base (k + 1) (gN defs noE (k + 1)) "Times" "size" 0 := by
  obtain ⟨fd, F⟩ := c.def_ 44 (d := d_Times_size) rfl
  exact met_m F (He.cls_ok (c.fact 47)) (He.meth_ok (c.fact 118)) s_Times_size rfl rfl rfl (m_Times_size X G c cb k) e_Times_size rfl rfl rfl rfl rfl (FunD.bindsN (ps := p_Times_size) F fun _ _ _ _ _ _ us hl => match us, hl with | [_], _ => rfl)
theorem m_Every_size (X : K.In h) (G : h.Ns mainGlobals mg) (c : He.SaysD fa fn K) (cb : bs K = true) (k : Nat) : ModOk P w K mg base (k + 0) (gN defs noE (k + 0)) c_Every_size where
  con := conNil
  fr := frNil
  fn := fnNil
  at_ := atCons ⟨He.cls_ok (c.fact 37), He.noat_ok (c.fact 61)⟩ (atCons ⟨He.cls_ok (c.fact 49), He.noat_ok (c.fact 68)⟩ (atNil))
  me := meNil
  mks := mksNil
theorem o_Every_size (X : K.In h) (G : h.Ns mainGlobals mg) (c : He.SaysD fa fn K) (cb : bs K = true) (k : Nat) : MetM P w K mg base (k + 1) (gN defs noE (k + 1)) "Every" "size" 0 := by
  obtain ⟨fd, F⟩ := c.def_ 45 (d := d_Every_size) rfl
  exact met_m F (He.cls_ok (c.fact 49)) (He.meth_ok (c.fact 119)) s_Every_size rfl rfl rfl (m_Every_size X G c cb k) e_Every_size rfl rfl rfl rfl rfl (FunD.bindsN (ps := p_Every_size) F fun _ _ _ _ _ _ us hl => match us, hl with | [_], _ => rfl)
theorem o_Move_size (X : K.In h) (G : h.Ns mainGlobals mg) (c : He.SaysD fa fn K) (cb : bs K = true) (k : Nat) : MetM P w K mg base (k + 1) (gN defs noE (k + 1)) "Move" "size" 0 := by
  obtain ⟨fd, F⟩ := c.def_ 46 (d := d_Move_size) rfl
  exact met_m F (He.cls_ok (c.fact 51)) (He.meth_ok (c.fact 120)) s_Span_size rfl rfl rfl (m_Span_size X G c cb k) e_Span_size rfl rfl rfl rfl rfl (FunD.bindsN (ps := p_Span_size) F fun _ _ _ _ _ _ us hl => match us, hl with | [_], _ => rfl)
theorem o_Alike_size (X : K.In h) (G : h.Ns mainGlobals mg) (c : He.SaysD fa fn K) (cb : bs K = true) (k : Nat) : MetM P w K mg base (k + 1) (gN defs noE (k + 1)) "Alike" "size" 0 := by
  obtain ⟨fd, F⟩ := c.def_ 47 (d := d_Alike_size) rfl
  exact met_m F (He.cls_ok (c.fact 53)) (He.meth_ok (c.fact 121)) s_Span_size rfl rfl rfl (m_Span_size X G c cb k) e_Span_size rfl rfl rfl rfl rfl (FunD.bindsN (ps := p_Span_size) F fun _ _ _ _ _ _ us hl => match us, hl with | [_], _ => rfl)
theorem m_weight (X : K.In h) (G : h.Ns mainGlobals mg) (c : He.SaysD fa fn K) (cb : bs K = true) (k : Nat) : ModOk P w K mg base (k + 1) (gN defs noE (k + 1)) c_weight where
  con := conNil
  fr := frNil
  fn := fnNil
  at_ := atCons ⟨He.cls_ok (c.fact 109), He.noat_ok (c.fact 110)⟩ (atCons ⟨He.cls_ok (c.fact 109), He.noat_ok (c.fact 111)⟩ (atNil))
  me := meCons (MetM.lift (by omega) (by omega) (o_Span_size X G c cb k)) (meCons (MetM.lift (by omega) (by omega) (o_Clock_size X G c cb k)) (meCons (MetM.lift (by omega) (by omega) (o_Begin_size X G c cb k)) (meCons (MetM.lift (by omega) (by omega) (o_Close_size X G c cb k)) (meCons (MetM.lift (by omega) (by omega) (o_Back_size X G c cb k)) (meCons (MetM.lift (by omega) (by omega) (o_Held_size X G c cb k)) (meCons (MetM.lift (by omega) (by omega) (o_Times_size X G c cb k)) (meCons (MetM.lift (by omega) (by omega) (o_Every_size X G c cb k)) (meCons (MetM.lift (by omega) (by omega) (o_Move_size X G c cb k)) (meCons (MetM.lift (by omega) (by omega) (o_Alike_size X G c cb k)) (meNil))))))))))
  mks := mksNil
theorem o_weight (X : K.In h) (G : h.Ns mainGlobals mg) (c : He.SaysD fa fn K) (cb : bs K = true) (k : Nat) : FnM P w K mg base (k + 2) (gN defs noE (k + 2)) "weight" 1 := by
  obtain ⟨fd, F⟩ := c.def_ 48 (d := d_weight) rfl
  exact fn_m0 F (He.glo_ok X G (c.fact 108)) s_weight rfl rfl rfl (m_weight X G c cb k) e_weight rfl rfl rfl rfl (FunD.bindsN (ps := p_weight) F fun _ _ _ _ _ _ us hl => match us, hl with | [_], _ => rfl)
theorem m_Score_init (X : K.In h) (G : h.Ns mainGlobals mg) (c : He.SaysD fa fn K) (cb : bs K = true) (k : Nat) : ModOk P w K mg base (k + 0) (gN defs noE (k + 0)) c_Score_init where
  con := conNil
  fr := frCons (He.free_ok X G (c.fact 9)) (frNil)
  fn := fnNil
  at_ := atCons ⟨He.cls_ok (c.fact 109), He.noat_ok (c.fact 110)⟩ (atCons ⟨He.cls_ok (c.fact 109), He.noat_ok (c.fact 111)⟩ (atNil))
  me := meNil
  mks := mksNil
theorem b_Score_init (X : K.In h) (G : h.Ns mainGlobals mg) (c : He.SaysD fa fn K) (cb : bs K = true) (k : Nat) : ∀ z n, c_Score_init.bas.contains (z, n) = true → IniM P w K mg base (k + 0) (gN defs noE (k + 0)) z n := basNil
theorem k_Score_init (X : K.In h) (G : h.Ns mainGlobals mg) (c : He.SaysD fa fn K) (cb : bs K = true) (k : Nat) : MkM P w K mg base (k + 2) (gN defs noE (k + 1)) "Score" 2 := by
  obtain ⟨fd, F⟩ := c.def_ 49 (d := d_Score_init) rfl
  exact mk_m F (He.mkr_ok (c.fact 127)) (He.glo_ok X G (c.fact 128)) s_Score_init rfl rfl rfl (m_Score_init X G c cb k) (b_Score_init X G c cb k) e_Score_init rfl rfl rfl rfl rfl (FunD.bindsN (ps := p_Score_init) F fun _ _ _ _ _ _ us hl => match us, hl with | [_, _, _], _ => rfl)
theorem m_read (X : K.In h) (G : h.Ns mainGlobals mg) (c : He.SaysD fa fn K) (cb : bs K = true) (k : Nat) : ModOk P w K mg base (k + 6) (gN defs noE (k + 5)) c_read where
  con := conCons (by obtain ⟨t, e⟩ := He.int_ok X G (c.fact 123); exact ⟨_, e, ⟨t, rfl⟩⟩) (conCons (by obtain ⟨t, e⟩ := He.int_ok X G (c.fact 124); exact ⟨_, e, ⟨t, rfl⟩⟩) (conCons (by obtain ⟨t, e⟩ := He.int_ok X G (c.fact 125); exact ⟨_, e, ⟨t, rfl⟩⟩) (conNil)))
  fr := frCons (He.free_ok X G (c.fact 126)) (frCons (He.free_ok X G (c.fact 7)) (frNil))
  fn := fnCons (FnM.lift (by omega) (by omega) (o_read_range X G c cb (k + 3))) (fnCons (FnM.lift (by omega) (by omega) (o_read_rule X G c cb k)) (fnCons (FnM.lift (by omega) (by omega) (o_weight X G c cb (k + 3))) (fnNil)))
  at_ := atNil
  me := meNil
  mks := mksCons (MkM.lift (by omega) (by omega) (k_Score_init X G c cb (k + 4))) (mksNil)
theorem o_read (X : K.In h) (G : h.Ns mainGlobals mg) (c : He.SaysD fa fn K) (cb : bs K = true) (k : Nat) : FnM P w K mg base (k + 7) (gN defs noE (k + 6)) "read" 1 := by
  obtain ⟨fd, F⟩ := c.def_ 50 (d := d_read) rfl
  exact fn_m0 F (He.glo_ok X G (c.fact 122)) s_read rfl rfl rfl (m_read X G c cb k) e_read rfl rfl rfl rfl (FunD.bindsN (ps := p_read) F fun _ _ _ _ _ _ us hl => match us, hl with | [_], _ => rfl)
theorem m_l_text (X : K.In h) (G : h.Ns mainGlobals mg) (c : He.SaysD fa fn K) (cb : bs K = true) (k : Nat) : ModOk P w K mg base (k + 0) (gN defs noE (k + 0)) c_l_text where
  con := conNil
  fr := frCons (He.free_ok X G (c.fact 130)) (frNil)
  fn := fnNil
  at_ := atNil
  me := meNil
  mks := mksNil
theorem o_l_text (X : K.In h) (G : h.Ns mainGlobals mg) (c : He.SaysD fa fn K) (cb : bs K = true) (k : Nat) : FnM P w K mg base (k + 1) (gN defs noE (k + 1)) "_law_text" 2 := by
  obtain ⟨fd, F⟩ := c.def_ 51 (d := d_l_text) rfl
  exact fn_m0 F (He.glo_ok X G (c.fact 129)) s_l_text rfl rfl rfl (m_l_text X G c cb k) e_l_text rfl rfl rfl rfl (FunD.bindsN (ps := p_l_text) F fun _ _ _ _ _ _ us hl => match us, hl with | [_, _], _ => rfl)
theorem m_l_alike (X : K.In h) (G : h.Ns mainGlobals mg) (c : He.SaysD fa fn K) (cb : bs K = true) (k : Nat) : ModOk P w K mg base (k + 0) (gN defs noE (k + 0)) c_l_alike where
  con := conNil
  fr := frCons (He.free_ok X G (c.fact 132)) (frCons (He.free_ok X G (c.fact 28)) (frCons (He.free_ok X G (c.fact 133)) (frCons (He.free_ok X G (c.fact 7)) (frCons (He.free_ok X G (c.fact 17)) (frNil)))))
  fn := fnNil
  at_ := atNil
  me := meNil
  mks := mksNil
theorem o_l_alike (X : K.In h) (G : h.Ns mainGlobals mg) (c : He.SaysD fa fn K) (cb : bs K = true) (k : Nat) : FnM P w K mg base (k + 1) (gN defs noE (k + 1)) "_law_alike" 2 := by
  obtain ⟨fd, F⟩ := c.def_ 52 (d := d_l_alike) rfl
  exact fn_m0 F (He.glo_ok X G (c.fact 131)) s_l_alike rfl rfl rfl (m_l_alike X G c cb k) e_l_alike rfl rfl rfl rfl (FunD.bindsN (ps := p_l_alike) F fun _ _ _ _ _ _ us hl => match us, hl with | [_, _], _ => rfl)
theorem m_l_badly_closed (X : K.In h) (G : h.Ns mainGlobals mg) (c : He.SaysD fa fn K) (cb : bs K = true) (k : Nat) : ModOk P w K mg base (k + 0) (gN defs noE (k + 0)) c_l_badly_closed where
  con := conNil
  fr := frCons (He.free_ok X G (c.fact 4)) (frCons (He.free_ok X G (c.fact 7)) (frNil))
  fn := fnNil
  at_ := atNil
  me := meNil
  mks := mksNil
theorem o_l_badly_closed (X : K.In h) (G : h.Ns mainGlobals mg) (c : He.SaysD fa fn K) (cb : bs K = true) (k : Nat) : FnM P w K mg base (k + 1) (gN defs noE (k + 1)) "_law_badly_closed" 2 := by
  obtain ⟨fd, F⟩ := c.def_ 53 (d := d_l_badly_closed) rfl
  exact fn_m0 F (He.glo_ok X G (c.fact 134)) s_l_badly_closed rfl rfl rfl (m_l_badly_closed X G c cb k) e_l_badly_closed rfl rfl rfl rfl (FunD.bindsN (ps := p_l_badly_closed) F fun _ _ _ _ _ _ us hl => match us, hl with | [_, _], _ => rfl)
theorem m_l_fault (X : K.In h) (G : h.Ns mainGlobals mg) (c : He.SaysD fa fn K) (cb : bs K = true) (k : Nat) : ModOk P w K mg base (k + 3) (gN defs noE (k + 3)) c_l_fault where
  con := conNil
  fr := frCons (He.free_ok X G (c.fact 7)) (frCons (He.free_ok X G (c.fact 2)) (frNil))
  fn := fnCons (FnM.lift (by omega) (by omega) (o_l_row_at X G c cb k)) (fnCons (FnM.lift (by omega) (by omega) (o_l_badly_closed X G c cb (k + 2))) (fnNil))
  at_ := atNil
  me := meNil
  mks := mksNil
theorem o_l_fault (X : K.In h) (G : h.Ns mainGlobals mg) (c : He.SaysD fa fn K) (cb : bs K = true) (k : Nat) : FnM P w K mg base (k + 4) (gN defs noE (k + 4)) "_law_fault" 3 := by
  obtain ⟨fd, F⟩ := c.def_ 54 (d := d_l_fault) rfl
  exact fn_m0 F (He.glo_ok X G (c.fact 135)) s_l_fault rfl rfl rfl (m_l_fault X G c cb k) e_l_fault rfl rfl rfl rfl (FunD.bindsN (ps := p_l_fault) F fun _ _ _ _ _ _ us hl => match us, hl with | [_, _, _], _ => rfl)
theorem m_earlier (X : K.In h) (G : h.Ns mainGlobals mg) (c : He.SaysD fa fn K) (cb : bs K = true) (k : Nat) : ModOk P w K mg base (k + 0) (gN defs noE (k + 0)) c_earlier where
  con := conNil
  fr := frNil
  fn := fnNil
  at_ := atNil
  me := meNil
  mks := mksNil
theorem o_earlier (X : K.In h) (G : h.Ns mainGlobals mg) (c : He.SaysD fa fn K) (cb : bs K = true) (k : Nat) : FnM P w K mg base (k + 1) (gN defs noE (k + 1)) "earlier" 3 := by
  obtain ⟨fd, F⟩ := c.def_ 55 (d := d_earlier) rfl
  exact fn_m0 F (He.glo_ok X G (c.fact 136)) s_earlier rfl rfl rfl (m_earlier X G c cb k) e_earlier rfl rfl rfl rfl (FunD.bindsN (ps := p_earlier) F fun _ _ _ _ _ _ us hl => match us, hl with | [_, _, _], _ => rfl)
theorem m_out_at (X : K.In h) (G : h.Ns mainGlobals mg) (c : He.SaysD fa fn K) (cb : bs K = true) (k : Nat) : ModOk P w K mg base (k + 0) (gN defs noE (k + 0)) c_out_at where
  con := conNil
  fr := frCons (He.free_ok X G (c.fact 126)) (frNil)
  fn := fnNil
  at_ := atNil
  me := meNil
  mks := mksNil
theorem o_out_at (X : K.In h) (G : h.Ns mainGlobals mg) (c : He.SaysD fa fn K) (cb : bs K = true) (k : Nat) : FnM P w K mg base (k + 1) (gN defs noE (k + 1)) "out_at" 4 := by
  obtain ⟨fd, F⟩ := c.def_ 56 (d := d_out_at) rfl
  exact fn_m0 F (He.glo_ok X G (c.fact 137)) s_out_at rfl rfl rfl (m_out_at X G c cb k) e_out_at rfl rfl rfl rfl (FunD.bindsN (ps := p_out_at) F fun _ _ _ _ _ _ us hl => match us, hl with | [_, _, _, _], _ => rfl)
theorem m_Span_start (X : K.In h) (G : h.Ns mainGlobals mg) (c : He.SaysD fa fn K) (cb : bs K = true) (k : Nat) : ModOk P w K mg base (k + 0) (gN defs noE (k + 0)) c_Span_start where
  con := conNil
  fr := frNil
  fn := fnNil
  at_ := atNil
  me := meNil
  mks := mksNil
theorem o_Span_start (X : K.In h) (G : h.Ns mainGlobals mg) (c : He.SaysD fa fn K) (cb : bs K = true) (k : Nat) : MetM P w K mg base (k + 1) (gN defs noE (k + 1)) "Span" "start" 0 := by
  obtain ⟨fd, F⟩ := c.def_ 57 (d := d_Span_start) rfl
  exact met_m F (He.cls_ok (c.fact 35)) (He.meth_ok (c.fact 143)) s_Span_start rfl rfl rfl (m_Span_start X G c cb k) e_Span_start rfl rfl rfl rfl rfl (FunD.bindsN (ps := p_Span_start) F fun _ _ _ _ _ _ us hl => match us, hl with | [_], _ => rfl)
theorem o_Clock_start (X : K.In h) (G : h.Ns mainGlobals mg) (c : He.SaysD fa fn K) (cb : bs K = true) (k : Nat) : MetM P w K mg base (k + 1) (gN defs noE (k + 1)) "Clock" "start" 0 := by
  obtain ⟨fd, F⟩ := c.def_ 58 (d := d_Clock_start) rfl
  exact met_m F (He.cls_ok (c.fact 37)) (He.meth_ok (c.fact 144)) s_Span_start rfl rfl rfl (m_Span_start X G c cb k) e_Span_start rfl rfl rfl rfl rfl (FunD.bindsN (ps := p_Span_start) F fun _ _ _ _ _ _ us hl => match us, hl with | [_], _ => rfl)
theorem o_Begin_start (X : K.In h) (G : h.Ns mainGlobals mg) (c : He.SaysD fa fn K) (cb : bs K = true) (k : Nat) : MetM P w K mg base (k + 1) (gN defs noE (k + 1)) "Begin" "start" 0 := by
  obtain ⟨fd, F⟩ := c.def_ 59 (d := d_Begin_start) rfl
  exact met_m F (He.cls_ok (c.fact 39)) (He.meth_ok (c.fact 146)) s_Span_start rfl rfl rfl (m_Span_start X G c cb k) e_Span_start rfl rfl rfl rfl rfl (FunD.bindsN (ps := p_Span_start) F fun _ _ _ _ _ _ us hl => match us, hl with | [_], _ => rfl)
theorem o_Close_start (X : K.In h) (G : h.Ns mainGlobals mg) (c : He.SaysD fa fn K) (cb : bs K = true) (k : Nat) : MetM P w K mg base (k + 1) (gN defs noE (k + 1)) "Close" "start" 0 := by
  obtain ⟨fd, F⟩ := c.def_ 60 (d := d_Close_start) rfl
  exact met_m F (He.cls_ok (c.fact 41)) (He.meth_ok (c.fact 147)) s_Span_start rfl rfl rfl (m_Span_start X G c cb k) e_Span_start rfl rfl rfl rfl rfl (FunD.bindsN (ps := p_Span_start) F fun _ _ _ _ _ _ us hl => match us, hl with | [_], _ => rfl)
theorem m_Back_start (X : K.In h) (G : h.Ns mainGlobals mg) (c : He.SaysD fa fn K) (cb : bs K = true) (k : Nat) : ModOk P w K mg base (k + 0) (gN defs noE (k + 0)) c_Back_start where
  con := conCons (by obtain ⟨t, e⟩ := He.int_ok X G (c.fact 138); exact ⟨_, e, ⟨t, rfl⟩⟩) (conNil)
  fr := frNil
  fn := fnNil
  at_ := atNil
  me := meNil
  mks := mksNil
theorem o_Back_start (X : K.In h) (G : h.Ns mainGlobals mg) (c : He.SaysD fa fn K) (cb : bs K = true) (k : Nat) : MetM P w K mg base (k + 1) (gN defs noE (k + 1)) "Back" "start" 0 := by
  obtain ⟨fd, F⟩ := c.def_ 61 (d := d_Back_start) rfl
  exact met_m F (He.cls_ok (c.fact 43)) (He.meth_ok (c.fact 148)) s_Back_start rfl rfl rfl (m_Back_start X G c cb k) e_Back_start rfl rfl rfl rfl rfl (FunD.bindsN (ps := p_Back_start) F fun _ _ _ _ _ _ us hl => match us, hl with | [_], _ => rfl)
theorem o_Held_start (X : K.In h) (G : h.Ns mainGlobals mg) (c : He.SaysD fa fn K) (cb : bs K = true) (k : Nat) : MetM P w K mg base (k + 1) (gN defs noE (k + 1)) "Held" "start" 0 := by
  obtain ⟨fd, F⟩ := c.def_ 62 (d := d_Held_start) rfl
  exact met_m F (He.cls_ok (c.fact 45)) (He.meth_ok (c.fact 149)) s_Span_start rfl rfl rfl (m_Span_start X G c cb k) e_Span_start rfl rfl rfl rfl rfl (FunD.bindsN (ps := p_Span_start) F fun _ _ _ _ _ _ us hl => match us, hl with | [_], _ => rfl)
theorem o_Times_start (X : K.In h) (G : h.Ns mainGlobals mg) (c : He.SaysD fa fn K) (cb : bs K = true) (k : Nat) : MetM P w K mg base (k + 1) (gN defs noE (k + 1)) "Times" "start" 0 := by
  obtain ⟨fd, F⟩ := c.def_ 63 (d := d_Times_start) rfl
  exact met_m F (He.cls_ok (c.fact 47)) (He.meth_ok (c.fact 150)) s_Span_start rfl rfl rfl (m_Span_start X G c cb k) e_Span_start rfl rfl rfl rfl rfl (FunD.bindsN (ps := p_Span_start) F fun _ _ _ _ _ _ us hl => match us, hl with | [_], _ => rfl)
theorem o_Every_start (X : K.In h) (G : h.Ns mainGlobals mg) (c : He.SaysD fa fn K) (cb : bs K = true) (k : Nat) : MetM P w K mg base (k + 1) (gN defs noE (k + 1)) "Every" "start" 0 := by
  obtain ⟨fd, F⟩ := c.def_ 64 (d := d_Every_start) rfl
  exact met_m F (He.cls_ok (c.fact 49)) (He.meth_ok (c.fact 151)) s_Span_start rfl rfl rfl (m_Span_start X G c cb k) e_Span_start rfl rfl rfl rfl rfl (FunD.bindsN (ps := p_Span_start) F fun _ _ _ _ _ _ us hl => match us, hl with | [_], _ => rfl)
theorem o_Move_start (X : K.In h) (G : h.Ns mainGlobals mg) (c : He.SaysD fa fn K) (cb : bs K = true) (k : Nat) : MetM P w K mg base (k + 1) (gN defs noE (k + 1)) "Move" "start" 0 := by
  obtain ⟨fd, F⟩ := c.def_ 65 (d := d_Move_start) rfl
  exact met_m F (He.cls_ok (c.fact 51)) (He.meth_ok (c.fact 152)) s_Span_start rfl rfl rfl (m_Span_start X G c cb k) e_Span_start rfl rfl rfl rfl rfl (FunD.bindsN (ps := p_Span_start) F fun _ _ _ _ _ _ us hl => match us, hl with | [_], _ => rfl)
theorem o_Alike_start (X : K.In h) (G : h.Ns mainGlobals mg) (c : He.SaysD fa fn K) (cb : bs K = true) (k : Nat) : MetM P w K mg base (k + 1) (gN defs noE (k + 1)) "Alike" "start" 0 := by
  obtain ⟨fd, F⟩ := c.def_ 66 (d := d_Alike_start) rfl
  exact met_m F (He.cls_ok (c.fact 53)) (He.meth_ok (c.fact 153)) s_Span_start rfl rfl rfl (m_Span_start X G c cb k) e_Span_start rfl rfl rfl rfl rfl (FunD.bindsN (ps := p_Span_start) F fun _ _ _ _ _ _ us hl => match us, hl with | [_], _ => rfl)
theorem m_Span_after (X : K.In h) (G : h.Ns mainGlobals mg) (c : He.SaysD fa fn K) (cb : bs K = true) (k : Nat) : ModOk P w K mg base (k + 0) (gN defs noE (k + 0)) c_Span_after where
  con := conNil
  fr := frNil
  fn := fnNil
  at_ := atCons ⟨He.cls_ok (c.fact 35), He.noat_ok (c.fact 56)⟩ (atCons ⟨He.cls_ok (c.fact 37), He.noat_ok (c.fact 60)⟩ (atCons ⟨He.cls_ok (c.fact 53), He.noat_ok (c.fact 75)⟩ (atCons ⟨He.cls_ok (c.fact 35), He.noat_ok (c.fact 55)⟩ (atCons ⟨He.cls_ok (c.fact 37), He.noat_ok (c.fact 59)⟩ (atCons ⟨He.cls_ok (c.fact 53), He.noat_ok (c.fact 74)⟩ (atCons ⟨He.cls_ok (c.fact 35), He.noat_ok (c.fact 57)⟩ (atCons ⟨He.cls_ok (c.fact 37), He.noat_ok (c.fact 62)⟩ (atCons ⟨He.cls_ok (c.fact 39), He.noat_ok (c.fact 83)⟩ (atCons ⟨He.cls_ok (c.fact 41), He.noat_ok (c.fact 85)⟩ (atCons ⟨He.cls_ok (c.fact 51), He.noat_ok (c.fact 81)⟩ (atCons ⟨He.cls_ok (c.fact 53), He.noat_ok (c.fact 76)⟩ (atNil))))))))))))
  me := meNil
  mks := mksNil
theorem o_Span_after (X : K.In h) (G : h.Ns mainGlobals mg) (c : He.SaysD fa fn K) (cb : bs K = true) (k : Nat) : MetM P w K mg base (k + 1) (gN defs noE (k + 1)) "Span" "after" 3 := by
  obtain ⟨fd, F⟩ := c.def_ 67 (d := d_Span_after) rfl
  exact met_m F (He.cls_ok (c.fact 35)) (He.meth_ok (c.fact 141)) s_Span_after rfl rfl rfl (m_Span_after X G c cb k) e_Span_after rfl rfl rfl rfl rfl (FunD.bindsN (ps := p_Span_after) F fun _ _ _ _ _ _ us hl => match us, hl with | [_, _, _, _], _ => rfl)
theorem m_Clock_after (X : K.In h) (G : h.Ns mainGlobals mg) (c : He.SaysD fa fn K) (cb : bs K = true) (k : Nat) : ModOk P w K mg base (k + 0) (gN defs noE (k + 0)) c_Clock_after where
  con := conNil
  fr := frNil
  fn := fnNil
  at_ := atCons ⟨He.cls_ok (c.fact 35), He.noat_ok (c.fact 56)⟩ (atCons ⟨He.cls_ok (c.fact 37), He.noat_ok (c.fact 60)⟩ (atCons ⟨He.cls_ok (c.fact 53), He.noat_ok (c.fact 75)⟩ (atCons ⟨He.cls_ok (c.fact 35), He.noat_ok (c.fact 55)⟩ (atCons ⟨He.cls_ok (c.fact 37), He.noat_ok (c.fact 59)⟩ (atCons ⟨He.cls_ok (c.fact 53), He.noat_ok (c.fact 74)⟩ (atCons ⟨He.cls_ok (c.fact 37), He.noat_ok (c.fact 61)⟩ (atCons ⟨He.cls_ok (c.fact 49), He.noat_ok (c.fact 68)⟩ (atCons ⟨He.cls_ok (c.fact 35), He.noat_ok (c.fact 57)⟩ (atCons ⟨He.cls_ok (c.fact 37), He.noat_ok (c.fact 62)⟩ (atCons ⟨He.cls_ok (c.fact 39), He.noat_ok (c.fact 83)⟩ (atCons ⟨He.cls_ok (c.fact 41), He.noat_ok (c.fact 85)⟩ (atCons ⟨He.cls_ok (c.fact 51), He.noat_ok (c.fact 81)⟩ (atCons ⟨He.cls_ok (c.fact 53), He.noat_ok (c.fact 76)⟩ (atNil))))))))))))))
  me := meNil
  mks := mksNil
theorem o_Clock_after (X : K.In h) (G : h.Ns mainGlobals mg) (c : He.SaysD fa fn K) (cb : bs K = true) (k : Nat) : MetM P w K mg base (k + 1) (gN defs noE (k + 1)) "Clock" "after" 3 := by
  obtain ⟨fd, F⟩ := c.def_ 68 (d := d_Clock_after) rfl
  exact met_m F (He.cls_ok (c.fact 37)) (He.meth_ok (c.fact 142)) s_Clock_after rfl rfl rfl (m_Clock_after X G c cb k) e_Clock_after rfl rfl rfl rfl rfl (FunD.bindsN (ps := p_Clock_after) F fun _ _ _ _ _ _ us hl => match us, hl with | [_, _, _, _], _ => rfl)
theorem m_Begin_after (X : K.In h) (G : h.Ns mainGlobals mg) (c : He.SaysD fa fn K) (cb : bs K = true) (k : Nat) : ModOk P w K mg base (k + 0) (gN defs noE (k + 0)) c_Begin_after where
  con := conNil
  fr := frNil
  fn := fnNil
  at_ := atCons ⟨He.cls_ok (c.fact 39), He.noat_ok (c.fact 82)⟩ (atCons ⟨He.cls_ok (c.fact 41), He.noat_ok (c.fact 84)⟩ (atCons ⟨He.cls_ok (c.fact 43), He.noat_ok (c.fact 90)⟩ (atCons ⟨He.cls_ok (c.fact 45), He.noat_ok (c.fact 92)⟩ (atCons ⟨He.cls_ok (c.fact 47), He.noat_ok (c.fact 86)⟩ (atCons ⟨He.cls_ok (c.fact 51), He.noat_ok (c.fact 80)⟩ (atCons ⟨He.cls_ok (c.fact 35), He.noat_ok (c.fact 57)⟩ (atCons ⟨He.cls_ok (c.fact 37), He.noat_ok (c.fact 62)⟩ (atCons ⟨He.cls_ok (c.fact 39), He.noat_ok (c.fact 83)⟩ (atCons ⟨He.cls_ok (c.fact 41), He.noat_ok (c.fact 85)⟩ (atCons ⟨He.cls_ok (c.fact 51), He.noat_ok (c.fact 81)⟩ (atCons ⟨He.cls_ok (c.fact 53), He.noat_ok (c.fact 76)⟩ (atNil))))))))))))
  me := meNil
  mks := mksNil
theorem o_Begin_after (X : K.In h) (G : h.Ns mainGlobals mg) (c : He.SaysD fa fn K) (cb : bs K = true) (k : Nat) : MetM P w K mg base (k + 1) (gN defs noE (k + 1)) "Begin" "after" 3 := by
  obtain ⟨fd, F⟩ := c.def_ 69 (d := d_Begin_after) rfl
  exact met_m F (He.cls_ok (c.fact 39)) (He.meth_ok (c.fact 154)) s_Begin_after rfl rfl rfl (m_Begin_after X G c cb k) e_Begin_after rfl rfl rfl rfl rfl (FunD.bindsN (ps := p_Begin_after) F fun _ _ _ _ _ _ us hl => match us, hl with | [_, _, _, _], _ => rfl)
theorem m_Close_after (X : K.In h) (G : h.Ns mainGlobals mg) (c : He.SaysD fa fn K) (cb : bs K = true) (k : Nat) : ModOk P w K mg base (k + 0) (gN defs noE (k + 0)) c_Close_after where
  con := conNil
  fr := frNil
  fn := fnNil
  at_ := atNil
  me := meNil
  mks := mksNil
theorem o_Close_after (X : K.In h) (G : h.Ns mainGlobals mg) (c : He.SaysD fa fn K) (cb : bs K = true) (k : Nat) : MetM P w K mg base (k + 1) (gN defs noE (k + 1)) "Close" "after" 3 := by
  obtain ⟨fd, F⟩ := c.def_ 70 (d := d_Close_after) rfl
  exact met_m F (He.cls_ok (c.fact 41)) (He.meth_ok (c.fact 155)) s_Close_after rfl rfl rfl (m_Close_after X G c cb k) e_Close_after rfl rfl rfl rfl rfl (FunD.bindsN (ps := p_Close_after) F fun _ _ _ _ _ _ us hl => match us, hl with | [_, _, _, _], _ => rfl)
theorem m_Back_after (X : K.In h) (G : h.Ns mainGlobals mg) (c : He.SaysD fa fn K) (cb : bs K = true) (k : Nat) : ModOk P w K mg base (k + 0) (gN defs noE (k + 0)) c_Back_after where
  con := conCons (by obtain ⟨t, e⟩ := He.int_ok X G (c.fact 138); exact ⟨_, e, ⟨t, rfl⟩⟩) (conCons (by obtain ⟨t, e⟩ := He.int_ok X G (c.fact 139); exact ⟨_, e, ⟨t, rfl⟩⟩) (conCons (by obtain ⟨t, e⟩ := He.int_ok X G (c.fact 140); exact ⟨_, e, ⟨t, rfl⟩⟩) (conNil)))
  fr := frNil
  fn := fnNil
  at_ := atCons ⟨He.cls_ok (c.fact 39), He.noat_ok (c.fact 82)⟩ (atCons ⟨He.cls_ok (c.fact 41), He.noat_ok (c.fact 84)⟩ (atCons ⟨He.cls_ok (c.fact 43), He.noat_ok (c.fact 90)⟩ (atCons ⟨He.cls_ok (c.fact 45), He.noat_ok (c.fact 92)⟩ (atCons ⟨He.cls_ok (c.fact 47), He.noat_ok (c.fact 86)⟩ (atCons ⟨He.cls_ok (c.fact 51), He.noat_ok (c.fact 80)⟩ (atCons ⟨He.cls_ok (c.fact 43), He.noat_ok (c.fact 91)⟩ (atNil)))))))
  me := meNil
  mks := mksNil
theorem o_Back_after (X : K.In h) (G : h.Ns mainGlobals mg) (c : He.SaysD fa fn K) (cb : bs K = true) (k : Nat) : MetM P w K mg base (k + 1) (gN defs noE (k + 1)) "Back" "after" 3 := by
  obtain ⟨fd, F⟩ := c.def_ 71 (d := d_Back_after) rfl
  exact met_m F (He.cls_ok (c.fact 43)) (He.meth_ok (c.fact 156)) s_Back_after rfl rfl rfl (m_Back_after X G c cb k) e_Back_after rfl rfl rfl rfl rfl (FunD.bindsN (ps := p_Back_after) F fun _ _ _ _ _ _ us hl => match us, hl with | [_, _, _, _], _ => rfl)
theorem m_Held_after (X : K.In h) (G : h.Ns mainGlobals mg) (c : He.SaysD fa fn K) (cb : bs K = true) (k : Nat) : ModOk P w K mg base (k + 0) (gN defs noE (k + 0)) c_Held_after where
  con := conNil
  fr := frNil
  fn := fnNil
  at_ := atCons ⟨He.cls_ok (c.fact 39), He.noat_ok (c.fact 82)⟩ (atCons ⟨He.cls_ok (c.fact 41), He.noat_ok (c.fact 84)⟩ (atCons ⟨He.cls_ok (c.fact 43), He.noat_ok (c.fact 90)⟩ (atCons ⟨He.cls_ok (c.fact 45), He.noat_ok (c.fact 92)⟩ (atCons ⟨He.cls_ok (c.fact 47), He.noat_ok (c.fact 86)⟩ (atCons ⟨He.cls_ok (c.fact 51), He.noat_ok (c.fact 80)⟩ (atCons ⟨He.cls_ok (c.fact 45), He.noat_ok (c.fact 93)⟩ (atNil)))))))
  me := meNil
  mks := mksNil
theorem o_Held_after (X : K.In h) (G : h.Ns mainGlobals mg) (c : He.SaysD fa fn K) (cb : bs K = true) (k : Nat) : MetM P w K mg base (k + 1) (gN defs noE (k + 1)) "Held" "after" 3 := by
  obtain ⟨fd, F⟩ := c.def_ 72 (d := d_Held_after) rfl
  exact met_m F (He.cls_ok (c.fact 45)) (He.meth_ok (c.fact 157)) s_Held_after rfl rfl rfl (m_Held_after X G c cb k) e_Held_after rfl rfl rfl rfl rfl (FunD.bindsN (ps := p_Held_after) F fun _ _ _ _ _ _ us hl => match us, hl with | [_, _, _, _], _ => rfl)
theorem m_Times_after (X : K.In h) (G : h.Ns mainGlobals mg) (c : He.SaysD fa fn K) (cb : bs K = true) (k : Nat) : ModOk P w K mg base (k + 0) (gN defs noE (k + 0)) c_Times_after where
  con := conNil
  fr := frNil
  fn := fnNil
  at_ := atCons ⟨He.cls_ok (c.fact 39), He.noat_ok (c.fact 82)⟩ (atCons ⟨He.cls_ok (c.fact 41), He.noat_ok (c.fact 84)⟩ (atCons ⟨He.cls_ok (c.fact 43), He.noat_ok (c.fact 90)⟩ (atCons ⟨He.cls_ok (c.fact 45), He.noat_ok (c.fact 92)⟩ (atCons ⟨He.cls_ok (c.fact 47), He.noat_ok (c.fact 86)⟩ (atCons ⟨He.cls_ok (c.fact 51), He.noat_ok (c.fact 80)⟩ (atCons ⟨He.cls_ok (c.fact 47), He.noat_ok (c.fact 87)⟩ (atCons ⟨He.cls_ok (c.fact 47), He.noat_ok (c.fact 89)⟩ (atNil))))))))
  me := meNil
  mks := mksNil
theorem o_Times_after (X : K.In h) (G : h.Ns mainGlobals mg) (c : He.SaysD fa fn K) (cb : bs K = true) (k : Nat) : MetM P w K mg base (k + 1) (gN defs noE (k + 1)) "Times" "after" 3 := by
  obtain ⟨fd, F⟩ := c.def_ 73 (d := d_Times_after) rfl
  exact met_m F (He.cls_ok (c.fact 47)) (He.meth_ok (c.fact 158)) s_Times_after rfl rfl rfl (m_Times_after X G c cb k) e_Times_after rfl rfl rfl rfl rfl (FunD.bindsN (ps := p_Times_after) F fun _ _ _ _ _ _ us hl => match us, hl with | [_, _, _, _], _ => rfl)
theorem m_Every_after (X : K.In h) (G : h.Ns mainGlobals mg) (c : He.SaysD fa fn K) (cb : bs K = true) (k : Nat) : ModOk P w K mg base (k + 1) (gN defs noE (k + 1)) c_Every_after where
  con := conNil
  fr := frNil
  fn := fnNil
  at_ := atCons ⟨He.cls_ok (c.fact 49), He.noat_ok (c.fact 69)⟩ (atCons ⟨He.cls_ok (c.fact 49), He.noat_ok (c.fact 70)⟩ (atCons ⟨He.cls_ok (c.fact 37), He.noat_ok (c.fact 61)⟩ (atCons ⟨He.cls_ok (c.fact 49), He.noat_ok (c.fact 68)⟩ (atNil))))
  me := meCons (MetM.lift (by omega) (by omega) (o_Span_after X G c cb k)) (meCons (MetM.lift (by omega) (by omega) (o_Clock_after X G c cb k)) (meCons (MetM.lift (by omega) (by omega) (o_Span_start X G c cb k)) (meCons (MetM.lift (by omega) (by omega) (o_Clock_start X G c cb k)) (meNil))))
  mks := mksNil
theorem o_Every_after (X : K.In h) (G : h.Ns mainGlobals mg) (c : He.SaysD fa fn K) (cb : bs K = true) (k : Nat) : MetM P w K mg base (k + 2) (gN defs noE (k + 2)) "Every" "after" 3 := by
  obtain ⟨fd, F⟩ := c.def_ 74 (d := d_Every_after) rfl
  exact met_m F (He.cls_ok (c.fact 49)) (He.meth_ok (c.fact 159)) s_Every_after rfl rfl rfl (m_Every_after X G c cb k) e_Every_after rfl rfl rfl rfl rfl (FunD.bindsN (ps := p_Every_after) F fun _ _ _ _ _ _ us hl => match us, hl with | [_, _, _, _], _ => rfl)
theorem m_Move_after (X : K.In h) (G : h.Ns mainGlobals mg) (c : He.SaysD fa fn K) (cb : bs K = true) (k : Nat) : ModOk P w K mg base (k + 0) (gN defs noE (k + 0)) c_Move_after where
  con := conNil
  fr := frNil
  fn := fnNil
  at_ := atCons ⟨He.cls_ok (c.fact 39), He.noat_ok (c.fact 82)⟩ (atCons ⟨He.cls_ok (c.fact 41), He.noat_ok (c.fact 84)⟩ (atCons ⟨He.cls_ok (c.fact 43), He.noat_ok (c.fact 90)⟩ (atCons ⟨He.cls_ok (c.fact 45), He.noat_ok (c.fact 92)⟩ (atCons ⟨He.cls_ok (c.fact 47), He.noat_ok (c.fact 86)⟩ (atCons ⟨He.cls_ok (c.fact 51), He.noat_ok (c.fact 80)⟩ (atCons ⟨He.cls_ok (c.fact 35), He.noat_ok (c.fact 57)⟩ (atCons ⟨He.cls_ok (c.fact 37), He.noat_ok (c.fact 62)⟩ (atCons ⟨He.cls_ok (c.fact 39), He.noat_ok (c.fact 83)⟩ (atCons ⟨He.cls_ok (c.fact 41), He.noat_ok (c.fact 85)⟩ (atCons ⟨He.cls_ok (c.fact 51), He.noat_ok (c.fact 81)⟩ (atCons ⟨He.cls_ok (c.fact 53), He.noat_ok (c.fact 76)⟩ (atNil))))))))))))
  me := meNil
  mks := mksNil
theorem o_Move_after (X : K.In h) (G : h.Ns mainGlobals mg) (c : He.SaysD fa fn K) (cb : bs K = true) (k : Nat) : MetM P w K mg base (k + 1) (gN defs noE (k + 1)) "Move" "after" 3 := by
  obtain ⟨fd, F⟩ := c.def_ 75 (d := d_Move_after) rfl
  exact met_m F (He.cls_ok (c.fact 51)) (He.meth_ok (c.fact 160)) s_Move_after rfl rfl rfl (m_Move_after X G c cb k) e_Move_after rfl rfl rfl rfl rfl (FunD.bindsN (ps := p_Move_after) F fun _ _ _ _ _ _ us hl => match us, hl with | [_, _, _, _], _ => rfl)
theorem m_Alike_after (X : K.In h) (G : h.Ns mainGlobals mg) (c : He.SaysD fa fn K) (cb : bs K = true) (k : Nat) : ModOk P w K mg base (k + 0) (gN defs noE (k + 0)) c_Alike_after where
  con := conNil
  fr := frNil
  fn := fnNil
  at_ := atCons ⟨He.cls_ok (c.fact 35), He.noat_ok (c.fact 55)⟩ (atCons ⟨He.cls_ok (c.fact 37), He.noat_ok (c.fact 59)⟩ (atCons ⟨He.cls_ok (c.fact 53), He.noat_ok (c.fact 74)⟩ (atCons ⟨He.cls_ok (c.fact 35), He.noat_ok (c.fact 56)⟩ (atCons ⟨He.cls_ok (c.fact 37), He.noat_ok (c.fact 60)⟩ (atCons ⟨He.cls_ok (c.fact 53), He.noat_ok (c.fact 75)⟩ (atCons ⟨He.cls_ok (c.fact 35), He.noat_ok (c.fact 57)⟩ (atCons ⟨He.cls_ok (c.fact 37), He.noat_ok (c.fact 62)⟩ (atCons ⟨He.cls_ok (c.fact 39), He.noat_ok (c.fact 83)⟩ (atCons ⟨He.cls_ok (c.fact 41), He.noat_ok (c.fact 85)⟩ (atCons ⟨He.cls_ok (c.fact 51), He.noat_ok (c.fact 81)⟩ (atCons ⟨He.cls_ok (c.fact 53), He.noat_ok (c.fact 76)⟩ (atNil))))))))))))
  me := meNil
  mks := mksNil
theorem o_Alike_after (X : K.In h) (G : h.Ns mainGlobals mg) (c : He.SaysD fa fn K) (cb : bs K = true) (k : Nat) : MetM P w K mg base (k + 1) (gN defs noE (k + 1)) "Alike" "after" 3 := by
  obtain ⟨fd, F⟩ := c.def_ 76 (d := d_Alike_after) rfl
  exact met_m F (He.cls_ok (c.fact 53)) (He.meth_ok (c.fact 161)) s_Alike_after rfl rfl rfl (m_Alike_after X G c cb k) e_Alike_after rfl rfl rfl rfl rfl (FunD.bindsN (ps := p_Alike_after) F fun _ _ _ _ _ _ us hl => match us, hl with | [_, _, _, _], _ => rfl)
theorem m_Span_closes (X : K.In h) (G : h.Ns mainGlobals mg) (c : He.SaysD fa fn K) (cb : bs K = true) (k : Nat) : ModOk P w K mg base (k + 0) (gN defs noE (k + 0)) c_Span_closes where
  con := conNil
  fr := frNil
  fn := fnNil
  at_ := atNil
  me := meNil
  mks := mksNil
theorem o_Span_closes (X : K.In h) (G : h.Ns mainGlobals mg) (c : He.SaysD fa fn K) (cb : bs K = true) (k : Nat) : MetM P w K mg base (k + 1) (gN defs noE (k + 1)) "Span" "closes" 2 := by
  obtain ⟨fd, F⟩ := c.def_ 77 (d := d_Span_closes) rfl
  exact met_m F (He.cls_ok (c.fact 35)) (He.meth_ok (c.fact 162)) s_Span_closes rfl rfl rfl (m_Span_closes X G c cb k) e_Span_closes rfl rfl rfl rfl rfl (FunD.bindsN (ps := p_Span_closes) F fun _ _ _ _ _ _ us hl => match us, hl with | [_, _, _], _ => rfl)
theorem o_Clock_closes (X : K.In h) (G : h.Ns mainGlobals mg) (c : He.SaysD fa fn K) (cb : bs K = true) (k : Nat) : MetM P w K mg base (k + 1) (gN defs noE (k + 1)) "Clock" "closes" 2 := by
  obtain ⟨fd, F⟩ := c.def_ 78 (d := d_Clock_closes) rfl
  exact met_m F (He.cls_ok (c.fact 37)) (He.meth_ok (c.fact 163)) s_Span_closes rfl rfl rfl (m_Span_closes X G c cb k) e_Span_closes rfl rfl rfl rfl rfl (FunD.bindsN (ps := p_Span_closes) F fun _ _ _ _ _ _ us hl => match us, hl with | [_, _, _], _ => rfl)
theorem o_Begin_closes (X : K.In h) (G : h.Ns mainGlobals mg) (c : He.SaysD fa fn K) (cb : bs K = true) (k : Nat) : MetM P w K mg base (k + 1) (gN defs noE (k + 1)) "Begin" "closes" 2 := by
  obtain ⟨fd, F⟩ := c.def_ 79 (d := d_Begin_closes) rfl
  exact met_m F (He.cls_ok (c.fact 39)) (He.meth_ok (c.fact 164)) s_Span_closes rfl rfl rfl (m_Span_closes X G c cb k) e_Span_closes rfl rfl rfl rfl rfl (FunD.bindsN (ps := p_Span_closes) F fun _ _ _ _ _ _ us hl => match us, hl with | [_, _, _], _ => rfl)
theorem m_Close_closes (X : K.In h) (G : h.Ns mainGlobals mg) (c : He.SaysD fa fn K) (cb : bs K = true) (k : Nat) : ModOk P w K mg base (k + 0) (gN defs noE (k + 0)) c_Close_closes where
  con := conNil
  fr := frNil
  fn := fnNil
  at_ := atCons ⟨He.cls_ok (c.fact 39), He.noat_ok (c.fact 82)⟩ (atCons ⟨He.cls_ok (c.fact 41), He.noat_ok (c.fact 84)⟩ (atCons ⟨He.cls_ok (c.fact 43), He.noat_ok (c.fact 90)⟩ (atCons ⟨He.cls_ok (c.fact 45), He.noat_ok (c.fact 92)⟩ (atCons ⟨He.cls_ok (c.fact 47), He.noat_ok (c.fact 86)⟩ (atCons ⟨He.cls_ok (c.fact 51), He.noat_ok (c.fact 80)⟩ (atCons ⟨He.cls_ok (c.fact 35), He.noat_ok (c.fact 57)⟩ (atCons ⟨He.cls_ok (c.fact 37), He.noat_ok (c.fact 62)⟩ (atCons ⟨He.cls_ok (c.fact 39), He.noat_ok (c.fact 83)⟩ (atCons ⟨He.cls_ok (c.fact 41), He.noat_ok (c.fact 85)⟩ (atCons ⟨He.cls_ok (c.fact 51), He.noat_ok (c.fact 81)⟩ (atCons ⟨He.cls_ok (c.fact 53), He.noat_ok (c.fact 76)⟩ (atNil))))))))))))
  me := meNil
  mks := mksNil
theorem o_Close_closes (X : K.In h) (G : h.Ns mainGlobals mg) (c : He.SaysD fa fn K) (cb : bs K = true) (k : Nat) : MetM P w K mg base (k + 1) (gN defs noE (k + 1)) "Close" "closes" 2 := by
  obtain ⟨fd, F⟩ := c.def_ 80 (d := d_Close_closes) rfl
  exact met_m F (He.cls_ok (c.fact 41)) (He.meth_ok (c.fact 165)) s_Close_closes rfl rfl rfl (m_Close_closes X G c cb k) e_Close_closes rfl rfl rfl rfl rfl (FunD.bindsN (ps := p_Close_closes) F fun _ _ _ _ _ _ us hl => match us, hl with | [_, _, _], _ => rfl)
theorem m_Back_closes (X : K.In h) (G : h.Ns mainGlobals mg) (c : He.SaysD fa fn K) (cb : bs K = true) (k : Nat) : ModOk P w K mg base (k + 0) (gN defs noE (k + 0)) c_Back_closes where
  con := conCons (by obtain ⟨t, e⟩ := He.int_ok X G (c.fact 138); exact ⟨_, e, ⟨t, rfl⟩⟩) (conNil)
  fr := frNil
  fn := fnNil
  at_ := atNil
  me := meNil
  mks := mksNil
theorem o_Back_closes (X : K.In h) (G : h.Ns mainGlobals mg) (c : He.SaysD fa fn K) (cb : bs K = true) (k : Nat) : MetM P w K mg base (k + 1) (gN defs noE (k + 1)) "Back" "closes" 2 := by
  obtain ⟨fd, F⟩ := c.def_ 81 (d := d_Back_closes) rfl
  exact met_m F (He.cls_ok (c.fact 43)) (He.meth_ok (c.fact 166)) s_Back_closes rfl rfl rfl (m_Back_closes X G c cb k) e_Back_closes rfl rfl rfl rfl rfl (FunD.bindsN (ps := p_Back_closes) F fun _ _ _ _ _ _ us hl => match us, hl with | [_, _, _], _ => rfl)
theorem o_Held_closes (X : K.In h) (G : h.Ns mainGlobals mg) (c : He.SaysD fa fn K) (cb : bs K = true) (k : Nat) : MetM P w K mg base (k + 1) (gN defs noE (k + 1)) "Held" "closes" 2 := by
  obtain ⟨fd, F⟩ := c.def_ 82 (d := d_Held_closes) rfl
  exact met_m F (He.cls_ok (c.fact 45)) (He.meth_ok (c.fact 167)) s_Span_closes rfl rfl rfl (m_Span_closes X G c cb k) e_Span_closes rfl rfl rfl rfl rfl (FunD.bindsN (ps := p_Span_closes) F fun _ _ _ _ _ _ us hl => match us, hl with | [_, _, _], _ => rfl)
theorem m_Times_closes (X : K.In h) (G : h.Ns mainGlobals mg) (c : He.SaysD fa fn K) (cb : bs K = true) (k : Nat) : ModOk P w K mg base (k + 0) (gN defs noE (k + 0)) c_Times_closes where
  con := conNil
  fr := frNil
  fn := fnNil
  at_ := atCons ⟨He.cls_ok (c.fact 47), He.noat_ok (c.fact 88)⟩ (atNil)
  me := meNil
  mks := mksNil
theorem o_Times_closes (X : K.In h) (G : h.Ns mainGlobals mg) (c : He.SaysD fa fn K) (cb : bs K = true) (k : Nat) : MetM P w K mg base (k + 1) (gN defs noE (k + 1)) "Times" "closes" 2 := by
  obtain ⟨fd, F⟩ := c.def_ 83 (d := d_Times_closes) rfl
  exact met_m F (He.cls_ok (c.fact 47)) (He.meth_ok (c.fact 168)) s_Times_closes rfl rfl rfl (m_Times_closes X G c cb k) e_Times_closes rfl rfl rfl rfl rfl (FunD.bindsN (ps := p_Times_closes) F fun _ _ _ _ _ _ us hl => match us, hl with | [_, _, _], _ => rfl)
theorem o_Every_closes (X : K.In h) (G : h.Ns mainGlobals mg) (c : He.SaysD fa fn K) (cb : bs K = true) (k : Nat) : MetM P w K mg base (k + 1) (gN defs noE (k + 1)) "Every" "closes" 2 := by
  obtain ⟨fd, F⟩ := c.def_ 84 (d := d_Every_closes) rfl
  exact met_m F (He.cls_ok (c.fact 49)) (He.meth_ok (c.fact 169)) s_Span_closes rfl rfl rfl (m_Span_closes X G c cb k) e_Span_closes rfl rfl rfl rfl rfl (FunD.bindsN (ps := p_Span_closes) F fun _ _ _ _ _ _ us hl => match us, hl with | [_, _, _], _ => rfl)
theorem o_Move_closes (X : K.In h) (G : h.Ns mainGlobals mg) (c : He.SaysD fa fn K) (cb : bs K = true) (k : Nat) : MetM P w K mg base (k + 1) (gN defs noE (k + 1)) "Move" "closes" 2 := by
  obtain ⟨fd, F⟩ := c.def_ 85 (d := d_Move_closes) rfl
  exact met_m F (He.cls_ok (c.fact 51)) (He.meth_ok (c.fact 170)) s_Span_closes rfl rfl rfl (m_Span_closes X G c cb k) e_Span_closes rfl rfl rfl rfl rfl (FunD.bindsN (ps := p_Span_closes) F fun _ _ _ _ _ _ us hl => match us, hl with | [_, _, _], _ => rfl)
theorem o_Alike_closes (X : K.In h) (G : h.Ns mainGlobals mg) (c : He.SaysD fa fn K) (cb : bs K = true) (k : Nat) : MetM P w K mg base (k + 1) (gN defs noE (k + 1)) "Alike" "closes" 2 := by
  obtain ⟨fd, F⟩ := c.def_ 86 (d := d_Alike_closes) rfl
  exact met_m F (He.cls_ok (c.fact 53)) (He.meth_ok (c.fact 171)) s_Span_closes rfl rfl rfl (m_Span_closes X G c cb k) e_Span_closes rfl rfl rfl rfl rfl (FunD.bindsN (ps := p_Span_closes) F fun _ _ _ _ _ _ us hl => match us, hl with | [_, _, _], _ => rfl)
theorem m_broken_at (X : K.In h) (G : h.Ns mainGlobals mg) (c : He.SaysD fa fn K) (cb : bs K = true) (k : Nat) : ModOk P w K mg base (k + 2) (gN defs noE (k + 2)) c_broken_at where
  con := conNil
  fr := frCons (He.free_ok X G (c.fact 126)) (frCons (He.free_ok X G (c.fact 7)) (frNil))
  fn := fnNil
  at_ := atNil
  me := meCons (MetM.lift (by omega) (by omega) (o_Span_start X G c cb (k + 1))) (meCons (MetM.lift (by omega) (by omega) (o_Clock_start X G c cb (k + 1))) (meCons (MetM.lift (by omega) (by omega) (o_Begin_start X G c cb (k + 1))) (meCons (MetM.lift (by omega) (by omega) (o_Close_start X G c cb (k + 1))) (meCons (MetM.lift (by omega) (by omega) (o_Back_start X G c cb (k + 1))) (meCons (MetM.lift (by omega) (by omega) (o_Held_start X G c cb (k + 1))) (meCons (MetM.lift (by omega) (by omega) (o_Times_start X G c cb (k + 1))) (meCons (MetM.lift (by omega) (by omega) (o_Every_start X G c cb (k + 1))) (meCons (MetM.lift (by omega) (by omega) (o_Move_start X G c cb (k + 1))) (meCons (MetM.lift (by omega) (by omega) (o_Alike_start X G c cb (k + 1))) (meCons (MetM.lift (by omega) (by omega) (o_Span_after X G c cb (k + 1))) (meCons (MetM.lift (by omega) (by omega) (o_Clock_after X G c cb (k + 1))) (meCons (MetM.lift (by omega) (by omega) (o_Begin_after X G c cb (k + 1))) (meCons (MetM.lift (by omega) (by omega) (o_Close_after X G c cb (k + 1))) (meCons (MetM.lift (by omega) (by omega) (o_Back_after X G c cb (k + 1))) (meCons (MetM.lift (by omega) (by omega) (o_Held_after X G c cb (k + 1))) (meCons (MetM.lift (by omega) (by omega) (o_Times_after X G c cb (k + 1))) (meCons (MetM.lift (by omega) (by omega) (o_Every_after X G c cb k)) (meCons (MetM.lift (by omega) (by omega) (o_Move_after X G c cb (k + 1))) (meCons (MetM.lift (by omega) (by omega) (o_Alike_after X G c cb (k + 1))) (meCons (MetM.lift (by omega) (by omega) (o_Span_closes X G c cb (k + 1))) (meCons (MetM.lift (by omega) (by omega) (o_Clock_closes X G c cb (k + 1))) (meCons (MetM.lift (by omega) (by omega) (o_Begin_closes X G c cb (k + 1))) (meCons (MetM.lift (by omega) (by omega) (o_Close_closes X G c cb (k + 1))) (meCons (MetM.lift (by omega) (by omega) (o_Back_closes X G c cb (k + 1))) (meCons (MetM.lift (by omega) (by omega) (o_Held_closes X G c cb (k + 1))) (meCons (MetM.lift (by omega) (by omega) (o_Times_closes X G c cb (k + 1))) (meCons (MetM.lift (by omega) (by omega) (o_Every_closes X G c cb (k + 1))) (meCons (MetM.lift (by omega) (by omega) (o_Move_closes X G c cb (k + 1))) (meCons (MetM.lift (by omega) (by omega) (o_Alike_closes X G c cb (k + 1))) (meNil))))))))))))))))))))))))))))))
  mks := mksNil
theorem o_broken_at (X : K.In h) (G : h.Ns mainGlobals mg) (c : He.SaysD fa fn K) (cb : bs K = true) (k : Nat) : FnM P w K mg base (k + 3) (gN defs noE (k + 3)) "broken_at" 2 := by
  obtain ⟨fd, F⟩ := c.def_ 87 (d := d_broken_at) rfl
  exact fn_m0 F (He.glo_ok X G (c.fact 145)) s_broken_at rfl rfl rfl (m_broken_at X G c cb k) e_broken_at rfl rfl rfl rfl (FunD.bindsN (ps := p_broken_at) F fun _ _ _ _ _ _ us hl => match us, hl with | [_, _], _ => rfl)
theorem m_fault (X : K.In h) (G : h.Ns mainGlobals mg) (c : He.SaysD fa fn K) (cb : bs K = true) (k : Nat) : ModOk P w K mg base (k + 3) (gN defs noE (k + 3)) c_fault where
  con := conNil
  fr := frNil
  fn := fnCons (FnM.lift (by omega) (by omega) (o_earlier X G c cb (k + 2))) (fnCons (FnM.lift (by omega) (by omega) (o_out_at X G c cb (k + 2))) (fnCons (FnM.lift (by omega) (by omega) (o_broken_at X G c cb k)) (fnNil)))
  at_ := atCons ⟨He.cls_ok (c.fact 109), He.noat_ok (c.fact 110)⟩ (atCons ⟨He.cls_ok (c.fact 109), He.noat_ok (c.fact 111)⟩ (atNil))
  me := meNil
  mks := mksNil
theorem o_fault (X : K.In h) (G : h.Ns mainGlobals mg) (c : He.SaysD fa fn K) (cb : bs K = true) (k : Nat) : FnM P w K mg base (k + 4) (gN defs noE (k + 4)) "fault" 2 := by
  obtain ⟨fd, F⟩ := c.def_ 88 (d := d_fault) rfl
  exact fn_m0 F (He.glo_ok X G (c.fact 172)) s_fault rfl rfl rfl (m_fault X G c cb k) e_fault rfl rfl rfl rfl (FunD.bindsN (ps := p_fault) F fun _ _ _ _ _ _ us hl => match us, hl with | [_, _], _ => rfl)
theorem m_law (X : K.In h) (G : h.Ns mainGlobals mg) (c : He.SaysD fa fn K) (cb : bs K = true) (k : Nat) : ModOk P w K mg base (k + 7) (gN defs noE (k + 6)) c_law where
  con := conNil
  fr := frCons (He.free_ok X G (c.fact 7)) (frCons (He.free_ok X G (c.fact 9)) (frNil))
  fn := fnCons (FnM.lift (by omega) (by omega) (o_l_ranges X G c cb (k + 3))) (fnCons (FnM.lift (by omega) (by omega) (o_l_rules X G c cb (k + 2))) (fnCons (FnM.lift (by omega) (by omega) (o_l_line X G c cb (k + 2))) (fnCons (FnM.lift (by omega) (by omega) (o_read X G c cb k)) (fnCons (FnM.lift (by omega) (by omega) (o_l_text X G c cb (k + 5))) (fnCons (FnM.lift (by omega) (by omega) (o_l_alike X G c cb (k + 5))) (fnCons (FnM.lift (by omega) (by omega) (o_l_fault X G c cb (k + 2))) (fnCons (FnM.lift (by omega) (by omega) (o_fault X G c cb (k + 2))) (fnCons (FnM.lift (by omega) (by omega) (o_read_rule_2 X G c cb (k + 1))) (fnNil)))))))))
  at_ := atNil
  me := meNil
  mks := mksCons (MkM.lift (by omega) (by omega) (k_Score_init X G c cb (k + 5))) (mksNil)
end
abbrev rowR : PySem.W.OpenRow := PySem.W.OpenLaw.row PySem.Challenge.rw_fourvoices_k23_the_fault_of_a_line
abbrev hk : PySem.W.Hook := hookF 4 fa fn bs
def ob (s : PySem.W.SharedT) : AlF := obsF 4 fa fn bs (HandSHeadRun.getT s)
theorem ob_eq (s : PySem.W.SharedT) : ob s = hk.obs s.abs := obsF_eq (HandSHeadRun.getT_eq s)
def loose : List PySem.Str := (["_wall", "Rule", "Span", "Clock", "Begin", "Close", "broken_at", "MOST_scores", "Score", "weight", "out_at", "earlier", "fault", "ScoreError", "BadRow", "TooWide", "CALM", "UP", "DOWN", "Back", "Held", "Times", "Every", "Move", "Alike", "FIGURES", "MOST_words", "is_number", "MOST_rulereader", "numbers_of"] : List PySem.Str) ++ (["some_of", "look_at", "column_rule", "alike_rule", "voice_rule", "every_rule", "read_rule", "VOICES", "RULES", "read_range", "read", "_law_stirred", "_law_got", "_law_cells", "_law_ranges", "_law_size", "_law_some", "_law_spans", "_law_single", "_law_rule", "_law_rules", "_law_text", "_law_one_column", "_law_two_columns", "_law_one_voice", "_law_broken", "_law_badly_closed", "_law_row_at", "_law_fault", "_law_column"] : List PySem.Str) ++ (["_law_line", "_law_alike"] : List PySem.Str)
theorem topRun (w : World) : HandSHeadRun.RunEq rowR (PySem.W.view rowR.prog [71]) hk ob 20000 loose w := by
  intro os
  kernel_rfl
end Lk23
open PySem PySem.W PySem.Calls PyProof.Rows
theorem Lk23.holds (true_ : ∀ (k : Nat) (ns : List Int), ns.length ≤ 63 → (∀ z ∈ ns, PySem.Builtin.Int.intBits z ≤ 1048576) → Fv.runA (Lk23.mir (k + 6)) Lk23.a_law [.scr ns] = .ok (.d (.bl true))) : PySem.Challenge.rw_fourvoices_k23_the_fault_of_a_line.Holds := by
  w_on; o_law
  refine HandSHeadRun.head_any (r := OpenLaw.row PySem.Challenge.rw_fourvoices_k23_the_fault_of_a_line) (q := view (OpenLaw.row PySem.Challenge.rw_fourvoices_k23_the_fault_of_a_line).prog [71]) (H := Lk23.hk) (ob := Lk23.ob) (M := 20000) (loose := Lk23.loose) (d := HandSHeadRun.topDef (OpenLaw.row PySem.Challenge.rw_fourvoices_k23_the_fault_of_a_line).prog 71) (kwd := []) Lk23.ob_eq
    (by kernel_rfl) (fun s => by kernel_rfl) Lk23.topRun (by kernel_rfl) (by kernel_rfl) (by kernel_rfl) (by rfl) (by first | assumption | decide +kernel) (by decide +kernel) ⟨rfl, rfl, rfl, rfl, rfl, by decide +kernel⟩ ?hw ?hc
  case hw => w_witness2
  case hc =>
    refine Fv.walk_bits (l := PySem.Challenge.rw_fourvoices_k23_the_fault_of_a_line) (n := 63) (k := 7 + 1) (x := "_law_script") (CX := fun w => L2.CX (PySem.Challenge.rw_fourvoices_k23_the_fault_of_a_line).prog w) rfl (by decide) (by kernel_rfl) ⟨rfl, by decide, by decide⟩ ?F fun w H s e s' z => Fv.noCX w H s e s' z
    intro w mg fa h Y G hmg0
    obtain ⟨K, KX, c, cb⟩ := Y
    have hmg : mg ("law" : PySem.Str) = some (.ref fa) := by
      have e : (HandSHeadRun.topDef (OpenLaw.row PySem.Challenge.rw_fourvoices_k23_the_fault_of_a_line).prog 71).name = ("law" : PySem.Str) := by kernel_rfl
      rw [← e]
      exact hmg0
    obtain ⟨fd, F⟩ := He.SaysD.def_ c 89 (d := Lk23.d_law) rfl
    have e := hmg.symm.trans (He.glo_ok KX G (He.SaysD.fact c 173 (f := .glo "law") rfl))
    cases e
    have b := L2.FunD.bindsA (ps := Lk23.p_law) F fun _ _ _ _ _ _ us hl => match us, hl with | [_], _ => rfl
    exact ⟨K, fd, _, KX, fun s v => b s [v] rfl, fun H a ns hl hb hS => Fv.sp_law (g := Fv.gN Lk23.defs Lk23.noE 6) rfl hS (by have z := true_ 0 ns hl hb; rw [Nat.zero_add] at z; exact z), fun base _ _ => by
      have m := Lk23.m_law (P := (PySem.Challenge.rw_fourvoices_k23_the_fault_of_a_line).prog) (w := w) (base := base) KX G c cb 0
      rw [Nat.zero_add, Nat.zero_add] at m
      exact Fv.fn_ok F Lk23.s_law rfl rfl rfl m Lk23.e_law rfl rfl⟩
end
section
set_option maxHeartbeats 1000000
namespace Lk23
open Fv
theorem look_t (k : Nat) (row : D) : mir (k + 1) "look_at" [.bl true, row] = .ok (.d .non) := by
  refine (mirN_run (d := a_look_at) rfl _).trans ((run_0 rfl).trans ?_)
  simp [a_look_at]
theorem some_eq (k : Nat) (s : List Int) (row : D) (h : OkS s) : mir (k + 1) "some_of" [.lst (intsD s), row] = .ok (.fr (intsD s)) := by
  refine (mirN_run (d := a_some_of) rfl _).trans ((run_0 rfl).trans ?_)
  have hl : ((intsD s).length : Int) = (s.length : Int) := by rw [intsD_len]
  have h1 := h.lo
  have h2 := h.hi
  obtain ⟨q, hq⟩ : ∃ q : Int, (s.length : Int) = q := ⟨_, rfl⟩
  rw [hq] at hl
  have g1 : ¬ q < 1 := by omega
  have g2 : ¬ 12 < q := by omega
  generalize intsD s = xs at hl ⊢
  simp [a_some_of, hl, g1, g2]
theorem numbers_eq (k : Nat) (is : List Int) (row : D) (h : ∀ i ∈ is, SmI i) (hl : is.length ≤ 1000) : mir (k + 2) "numbers_of" [.lst (strsD (is.map itx)), row] = .ok (.fr (intsD is)) := by
  refine (mirN_run (d := a_numbers_of) rfl _).trans ((run_0 rfl).trans ?_)
  have hX : ∀ i x, (strsD (is.map itx))[i]? = some x → ∃ hi : i < is.length, x = .str (itx is[i]) := fun i x e => by
    have hi : i < is.length := by
      have := (List.getElem?_eq_some_iff.mp e).1
      simpa using this
    rw [strsD_at (by simpa using hi)] at e
    exact ⟨hi, by simpa using (Option.some.inj e).symm⟩
  have hXl : (strsD (is.map itx)).length = is.length := by simp
  generalize strsD (is.map itx) = X at hX hXl ⊢
  simp [a_numbers_of]
  refine for_rule (R := fun o => (o.thn _).val = R.ok (Val.fr _)) (fun i S => ∃ x, S = [.fz (.lst X), .fz row, .own (intsD (is.take i)), x]) ⟨_, rfl⟩ ?_ ?_
  · rintro i x S hx ⟨y, rfl⟩
    obtain ⟨hi, rfl⟩ := hX i x hx
    refine ⟨_, rfl, ?_⟩
    have hs := h is[i] (List.getElem_mem hi)
    have e1 := is_number_eq (defs := defs) rfl k (itx is[i]) ((itx_pl (k := 40) (by decide) hs).mono (by decide))
    rw [numB_itx hs] at e1
    have e2 := bi_int_itx hs
    have ln : (intsD (is.take i)).length < 16777216 := by rw [intsD_len, List.length_take]; omega
    have sn : intsD (is.take i) ++ [.int is[i]] = intsD (is.take (i + 1)) := by rw [intsD_snoc, List.take_succ_eq_append_getElem hi]
    generalize intsD (is.take i) = Y at ln sn ⊢
    generalize intsD (is.take (i + 1)) = Y' at sn ⊢
    simp [b_numbers_of_0, e1, e2, ln, sn]
  · rintro S ⟨y, rfl⟩
    rw [hXl, List.take_length]
    simp
theorem i_rule (k : Nat) (c : String) (t : D) (hc : c ∈ ["Rule", "Span", "Clock", "Begin", "Close", "Back", "Held", "Times", "Every", "Move", "Alike"]) : mir (k + 1) "Rule.__init__" [.ins c [] [], t] = .ok (.d (.ins c ["told"] [t])) := by
  refine (mirN_run (d := a_Rule_init) rfl _).trans ?_
  show (if c ∈ _ ∧ _ ∧ _ then _ else _) = _
  rw [if_pos ⟨hc, by decide⟩]
  rfl
theorem i_Span (k : Nat) (t x0 x1 x2 : D) : mir (k + 2) "Span.__init__" [.ins "Span" [] [], t, x0, x1, x2] = .ok (.d (.ins "Span" ["told", "one", "other", "some"] [t, x0, x1, x2])) := by
  refine (mirN_run (d := a_Span_init) rfl _).trans ?_
  have e := i_rule k "Span" t (by decide)
  simp [run, runI, iexe, a_Span_init, isIni, e, R.noEr]
theorem i_Clock (k : Nat) (t x0 x1 x2 x3 : D) : mir (k + 2) "Clock.__init__" [.ins "Clock" [] [], t, x0, x1, x2, x3] = .ok (.d (.ins "Clock" ["told", "one", "other", "beat", "some"] [t, x0, x1, x2, x3])) := by
  refine (mirN_run (d := a_Clock_init) rfl _).trans ?_
  have e := i_rule k "Clock" t (by decide)
  simp [run, runI, iexe, a_Clock_init, isIni, e, R.noEr]
theorem i_Begin (k : Nat) (t x0 x1 : D) : mir (k + 2) "Begin.__init__" [.ins "Begin" [] [], t, x0, x1] = .ok (.d (.ins "Begin" ["told", "voice", "some"] [t, x0, x1])) := by
  refine (mirN_run (d := a_Begin_init) rfl _).trans ?_
  have e := i_rule k "Begin" t (by decide)
  simp [run, runI, iexe, a_Begin_init, isIni, e, R.noEr]
theorem i_Close (k : Nat) (t x0 x1 : D) : mir (k + 2) "Close.__init__" [.ins "Close" [] [], t, x0, x1] = .ok (.d (.ins "Close" ["told", "voice", "some"] [t, x0, x1])) := by
  refine (mirN_run (d := a_Close_init) rfl _).trans ?_
  have e := i_rule k "Close" t (by decide)
  simp [run, runI, iexe, a_Close_init, isIni, e, R.noEr]
theorem i_Back (k : Nat) (t x0 x1 : D) : mir (k + 2) "Back.__init__" [.ins "Back" [] [], t, x0, x1] = .ok (.d (.ins "Back" ["told", "voice", "far"] [t, x0, x1])) := by
  refine (mirN_run (d := a_Back_init) rfl _).trans ?_
  have e := i_rule k "Back" t (by decide)
  simp [run, runI, iexe, a_Back_init, isIni, e, R.noEr]
theorem i_Held (k : Nat) (t x0 x1 : D) : mir (k + 2) "Held.__init__" [.ins "Held" [] [], t, x0, x1] = .ok (.d (.ins "Held" ["told", "voice", "most"] [t, x0, x1])) := by
  refine (mirN_run (d := a_Held_init) rfl _).trans ?_
  have e := i_rule k "Held" t (by decide)
  simp [run, runI, iexe, a_Held_init, isIni, e, R.noEr]
theorem i_Times (k : Nat) (t x0 x1 x2 x3 : D) : mir (k + 2) "Times.__init__" [.ins "Times" [] [], t, x0, x1, x2, x3] = .ok (.d (.ins "Times" ["told", "voice", "note", "low", "high"] [t, x0, x1, x2, x3])) := by
  refine (mirN_run (d := a_Times_init) rfl _).trans ?_
  have e := i_rule k "Times" t (by decide)
  simp [run, runI, iexe, a_Times_init, isIni, e, R.noEr]
theorem i_Every (k : Nat) (t x0 x1 x2 : D) : mir (k + 2) "Every.__init__" [.ins "Every" [] [], t, x0, x1, x2] = .ok (.d (.ins "Every" ["told", "beat", "at", "rule"] [t, x0, x1, x2])) := by
  refine (mirN_run (d := a_Every_init) rfl _).trans ?_
  have e := i_rule k "Every" t (by decide)
  simp [run, runI, iexe, a_Every_init, isIni, e, R.noEr]
theorem i_Move (k : Nat) (t x0 x1 : D) : mir (k + 2) "Move.__init__" [.ins "Move" [] [], t, x0, x1] = .ok (.d (.ins "Move" ["told", "voice", "some"] [t, x0, x1])) := by
  refine (mirN_run (d := a_Move_init) rfl _).trans ?_
  have e := i_rule k "Move" t (by decide)
  simp [run, runI, iexe, a_Move_init, isIni, e, R.noEr]
theorem i_Alike (k : Nat) (t x0 x1 x2 : D) : mir (k + 2) "Alike.__init__" [.ins "Alike" [] [], t, x0, x1, x2] = .ok (.d (.ins "Alike" ["told", "one", "other", "some"] [t, x0, x1, x2])) := by
  refine (mirN_run (d := a_Alike_init) rfl _).trans ?_
  have e := i_rule k "Alike" t (by decide)
  simp [run, runI, iexe, a_Alike_init, isIni, e, R.noEr]
theorem w_eq (a b : Tx) (h : Pl 16777216 a := by exact ⟨by decide, by decide⟩) (g : Pl 16777216 b := by exact ⟨by decide, by decide⟩) : cmpD .eq (.str a) (.str b) = .ok (decide (a = b)) := eq_str h g
theorem column_span (k : Nat) (t : D) (xs : List D) (one other n : Int) (s : List Int) (row : D) (l2 : (2 : Int) < xs.length) (s0 : subD (.lst xs) (.int 0) = .ok (.int one)) (s1 : subD (.lst xs) (.int 1) = .ok (.int other)) (sl : slcD (.lst xs) (some 2) none = .ok (.fr (intsD s))) (h1 : 1 ≤ one) (h2 : one ≤ n) (h3 : 1 ≤ other) (h4 : other ≤ n) (hs : OkS s) :
    mir (k + 3) "column_rule" [t, .str wSpan, .lst xs, .int n, row] = .ok (.d (.ins "Span" ["told", "one", "other", "some"] [t, .int (one - 1), .int (other - 1), .lst (intsD s)])) := by
  refine (mirN_run (d := a_column_rule) rfl _).trans ((run_0 rfl).trans ?_)
  have lk : mirN defs (k + 2) "look_at" [.bl true, row] = _ := look_t (k + 1) row
  have so : mirN defs (k + 2) "some_of" [.lst (intsD s), row] = _ := some_eq (k + 1) s row hs
  have ii : mirN defs (k + 2) "Span.__init__" [.ins "Span" [] [], t, .int (one - 1), .int (other - 1), .lst (intsD s)] = _ := i_Span k _ _ _ _
  have ek := w_eq wSpan [115, 112, 97, 110]
  rw [show decide (wSpan = [115, 112, 97, 110]) = true from rfl] at ek
  generalize wSpan = wk at ek ⊢
  obtain ⟨L, hL⟩ : ∃ L : Int, (xs.length : Int) = L := ⟨_, rfl⟩
  rw [hL] at l2
  simp [a_column_rule, hL, l2, s0, s1, sl, h1, h2, h3, h4, lk, so, ii, ek, R.noEr, newD]
theorem column_clock (k : Nat) (t : D) (xs : List D) (one other m n : Int) (s : List Int) (row : D) (l2 : (2 : Int) < xs.length) (s0 : subD (.lst xs) (.int 0) = .ok (.int one)) (s1 : subD (.lst xs) (.int 1) = .ok (.int other)) (s2 : subD (.lst xs) (.int 2) = .ok (.int m)) (sl : slcD (.lst xs) (some 3) none = .ok (.fr (intsD s))) (h1 : 1 ≤ one) (h2 : one ≤ n) (h3 : 1 ≤ other) (h4 : other ≤ n) (h5 : 1 ≤ m) (hs : OkS s) :
    mir (k + 3) "column_rule" [t, .str wClock, .lst xs, .int n, row] = .ok (.d (.ins "Clock" ["told", "one", "other", "beat", "some"] [t, .int (one - 1), .int (other - 1), .int m, .lst (intsD s)])) := by
  refine (mirN_run (d := a_column_rule) rfl _).trans ((run_0 rfl).trans ?_)
  have lk : mirN defs (k + 2) "look_at" [.bl true, row] = _ := look_t (k + 1) row
  have so : mirN defs (k + 2) "some_of" [.lst (intsD s), row] = _ := some_eq (k + 1) s row hs
  have ii : mirN defs (k + 2) "Clock.__init__" [.ins "Clock" [] [], t, .int (one - 1), .int (other - 1), .int m, .lst (intsD s)] = _ := i_Clock k _ _ _ _ _
  have ek := w_eq wClock [115, 112, 97, 110]
  rw [show decide (wClock = [115, 112, 97, 110]) = false from rfl] at ek
  generalize wClock = wk at ek ⊢
  obtain ⟨L, hL⟩ : ∃ L : Int, (xs.length : Int) = L := ⟨_, rfl⟩
  rw [hL] at l2
  simp [a_column_rule, hL, l2, s0, s1, s2, sl, h1, h2, h3, h4, h5, lk, so, ii, ek, R.noEr, newD]
theorem alike_eq (k : Nat) (t : D) (xs : List D) (one other n : Int) (s : List Int) (row : D) (l2 : (2 : Int) < xs.length) (s0 : subD (.lst xs) (.int 0) = .ok (.int one)) (s1 : subD (.lst xs) (.int 1) = .ok (.int other)) (sl : slcD (.lst xs) (some 2) none = .ok (.fr (intsD s))) (h1 : 1 ≤ one) (h2 : one ≤ n) (h3 : 1 ≤ other) (h4 : other ≤ n) (hs : OkS s) :
    mir (k + 3) "alike_rule" [t, .lst xs, .int n, row] = .ok (.d (.ins "Alike" ["told", "one", "other", "some"] [t, .int (one - 1), .int (other - 1), .lst (intsD s)])) := by
  refine (mirN_run (d := a_alike_rule) rfl _).trans ((run_0 rfl).trans ?_)
  have lk : mirN defs (k + 2) "look_at" [.bl true, row] = _ := look_t (k + 1) row
  have so : mirN defs (k + 2) "some_of" [.lst (intsD s), row] = _ := some_eq (k + 1) s row hs
  have ii : mirN defs (k + 2) "Alike.__init__" [.ins "Alike" [] [], t, .int (one - 1), .int (other - 1), .lst (intsD s)] = _ := i_Alike k _ _ _ _
  obtain ⟨L, hL⟩ : ∃ L : Int, (xs.length : Int) = L := ⟨_, rfl⟩
  rw [hL] at l2
  simp [a_alike_rule, hL, l2, s0, s1, sl, h1, h2, h3, h4, lk, so, ii, R.noEr, newD]
theorem voice_Move (k : Nat) (t : D) (xs : List D) (v n : Int) (s : List Int) (row : D) (l2 : (1 : Int) < xs.length) (s0 : subD (.lst xs) (.int 0) = .ok (.int v)) (sl : slcD (.lst xs) (some 1) none = .ok (.fr (intsD s))) (h1 : 1 ≤ v) (h2 : v ≤ n) (hs : OkS s) :
    mir (k + 3) "voice_rule" [t, .str wMove, .lst xs, .int n, row] = .ok (.d (.ins "Move" ["told", "voice", "some"] [t, .int (v - 1), .lst (intsD s)])) := by
  refine (mirN_run (d := a_voice_rule) rfl _).trans ((run_0 rfl).trans ?_)
  have lk : mirN defs (k + 2) "look_at" [.bl true, row] = _ := look_t (k + 1) row
  have so : mirN defs (k + 2) "some_of" [.lst (intsD s), row] = _ := some_eq (k + 1) s row hs
  have ii : mirN defs (k + 2) "Move.__init__" [.ins "Move" [] [], t, .int (v - 1), .lst (intsD s)] = _ := i_Move k _ _ _
  have ek0 := w_eq wMove [109, 111, 118, 101]
  rw [show decide (wMove = [109, 111, 118, 101]) = true from rfl] at ek0
  generalize wMove = wk at ek0 ⊢
  obtain ⟨L, hL⟩ : ∃ L : Int, (xs.length : Int) = L := ⟨_, rfl⟩
  rw [hL] at l2
  simp [a_voice_rule, hL, l2, s0, sl, h1, h2, lk, so, ii, ek0, R.noEr, newD]
theorem voice_Begin (k : Nat) (t : D) (xs : List D) (v n : Int) (s : List Int) (row : D) (l2 : (1 : Int) < xs.length) (s0 : subD (.lst xs) (.int 0) = .ok (.int v)) (sl : slcD (.lst xs) (some 1) none = .ok (.fr (intsD s))) (h1 : 1 ≤ v) (h2 : v ≤ n) (hs : OkS s) :
    mir (k + 3) "voice_rule" [t, .str wBegin, .lst xs, .int n, row] = .ok (.d (.ins "Begin" ["told", "voice", "some"] [t, .int (v - 1), .lst (intsD s)])) := by
  refine (mirN_run (d := a_voice_rule) rfl _).trans ((run_0 rfl).trans ?_)
  have lk : mirN defs (k + 2) "look_at" [.bl true, row] = _ := look_t (k + 1) row
  have so : mirN defs (k + 2) "some_of" [.lst (intsD s), row] = _ := some_eq (k + 1) s row hs
  have ii : mirN defs (k + 2) "Begin.__init__" [.ins "Begin" [] [], t, .int (v - 1), .lst (intsD s)] = _ := i_Begin k _ _ _
  have ek0 := w_eq wBegin [109, 111, 118, 101]
  rw [show decide (wBegin = [109, 111, 118, 101]) = false from rfl] at ek0
  have ek1 := w_eq wBegin [98, 101, 103, 105, 110]
  rw [show decide (wBegin = [98, 101, 103, 105, 110]) = true from rfl] at ek1
  generalize wBegin = wk at ek0 ek1 ⊢
  obtain ⟨L, hL⟩ : ∃ L : Int, (xs.length : Int) = L := ⟨_, rfl⟩
  rw [hL] at l2
  simp [a_voice_rule, hL, l2, s0, sl, h1, h2, lk, so, ii, ek0, ek1, R.noEr, newD]
theorem voice_Close (k : Nat) (t : D) (xs : List D) (v n : Int) (s : List Int) (row : D) (l2 : (1 : Int) < xs.length) (s0 : subD (.lst xs) (.int 0) = .ok (.int v)) (sl : slcD (.lst xs) (some 1) none = .ok (.fr (intsD s))) (h1 : 1 ≤ v) (h2 : v ≤ n) (hs : OkS s) :
    mir (k + 3) "voice_rule" [t, .str wClose, .lst xs, .int n, row] = .ok (.d (.ins "Close" ["told", "voice", "some"] [t, .int (v - 1), .lst (intsD s)])) := by
  refine (mirN_run (d := a_voice_rule) rfl _).trans ((run_0 rfl).trans ?_)
  have lk : mirN defs (k + 2) "look_at" [.bl true, row] = _ := look_t (k + 1) row
  have so : mirN defs (k + 2) "some_of" [.lst (intsD s), row] = _ := some_eq (k + 1) s row hs
  have ii : mirN defs (k + 2) "Close.__init__" [.ins "Close" [] [], t, .int (v - 1), .lst (intsD s)] = _ := i_Close k _ _ _
  have ek0 := w_eq wClose [109, 111, 118, 101]
  rw [show decide (wClose = [109, 111, 118, 101]) = false from rfl] at ek0
  have ek1 := w_eq wClose [98, 101, 103, 105, 110]
  rw [show decide (wClose = [98, 101, 103, 105, 110]) = false from rfl] at ek1
  have ek2 := w_eq wClose [99, 108, 111, 115, 101]
  rw [show decide (wClose = [99, 108, 111, 115, 101]) = true from rfl] at ek2
  generalize wClose = wk at ek0 ek1 ek2 ⊢
  obtain ⟨L, hL⟩ : ∃ L : Int, (xs.length : Int) = L := ⟨_, rfl⟩
  rw [hL] at l2
  simp [a_voice_rule, hL, l2, s0, sl, h1, h2, lk, so, ii, ek0, ek1, ek2, R.noEr, newD]
theorem voice_Times (k : Nat) (t : D) (xs ys : List D) (v n x lo hi : Int) (row : D) (l2 : (1 : Int) < xs.length) (s0 : subD (.lst xs) (.int 0) = .ok (.int v)) (sl : slcD (.lst xs) (some 1) none = .ok (.fr ys)) (yl : (ys.length : Int) = 3) (y0 : subD (.lst ys) (.int 0) = .ok (.int x)) (y1 : subD (.lst ys) (.int 1) = .ok (.int lo)) (y2 : subD (.lst ys) (.int 2) = .ok (.int hi)) (h1 : 1 ≤ v) (h2 : v ≤ n) (h3 : 0 ≤ lo) (h4 : 0 ≤ hi) :
    mir (k + 3) "voice_rule" [t, .str wTimes, .lst xs, .int n, row] = .ok (.d (.ins "Times" ["told", "voice", "note", "low", "high"] [t, .int (v - 1), .int x, .int lo, .int hi])) := by
  refine (mirN_run (d := a_voice_rule) rfl _).trans ((run_0 rfl).trans ?_)
  have lk : mirN defs (k + 2) "look_at" [.bl true, row] = _ := look_t (k + 1) row
  have ii : mirN defs (k + 2) "Times.__init__" [.ins "Times" [] [], t, .int (v - 1), .int x, .int lo, .int hi] = _ := i_Times k _ _ _ _ _
  have ek0 := w_eq wTimes [109, 111, 118, 101]
  rw [show decide (wTimes = [109, 111, 118, 101]) = false from rfl] at ek0
  have ek1 := w_eq wTimes [98, 101, 103, 105, 110]
  rw [show decide (wTimes = [98, 101, 103, 105, 110]) = false from rfl] at ek1
  have ek2 := w_eq wTimes [99, 108, 111, 115, 101]
  rw [show decide (wTimes = [99, 108, 111, 115, 101]) = false from rfl] at ek2
  have ek3 := w_eq wTimes [116, 105, 109, 101, 115]
  rw [show decide (wTimes = [116, 105, 109, 101, 115]) = true from rfl] at ek3
  generalize wTimes = wk at ek0 ek1 ek2 ek3 ⊢
  obtain ⟨L, hL⟩ : ∃ L : Int, (xs.length : Int) = L := ⟨_, rfl⟩
  rw [hL] at l2
  obtain ⟨M, hM⟩ : ∃ M : Int, (ys.length : Int) = M := ⟨_, rfl⟩
  rw [hM] at yl
  simp [a_voice_rule, hL, l2, s0, sl, hM, yl, y0, y1, y2, h1, h2, h3, h4, lk, ii, ek0, ek1, ek2, ek3, R.noEr, newD]
theorem voice_Back (k : Nat) (t : D) (xs ys : List D) (v n y : Int) (row : D) (l2 : (1 : Int) < xs.length) (s0 : subD (.lst xs) (.int 0) = .ok (.int v)) (sl : slcD (.lst xs) (some 1) none = .ok (.fr ys)) (yl : (ys.length : Int) = 1) (y0 : subD (.lst ys) (.int 0) = .ok (.int y)) (h1 : 1 ≤ v) (h2 : v ≤ n) (h3 : 0 ≤ y) :
    mir (k + 3) "voice_rule" [t, .str wBack, .lst xs, .int n, row] = .ok (.d (.ins "Back" ["told", "voice", "far"] [t, .int (v - 1), .int y])) := by
  refine (mirN_run (d := a_voice_rule) rfl _).trans ((run_0 rfl).trans ?_)
  have lk : mirN defs (k + 2) "look_at" [.bl true, row] = _ := look_t (k + 1) row
  have ii : mirN defs (k + 2) "Back.__init__" [.ins "Back" [] [], t, .int (v - 1), .int y] = _ := i_Back k _ _ _
  have ek0 := w_eq wBack [109, 111, 118, 101]
  rw [show decide (wBack = [109, 111, 118, 101]) = false from rfl] at ek0
  have ek1 := w_eq wBack [98, 101, 103, 105, 110]
  rw [show decide (wBack = [98, 101, 103, 105, 110]) = false from rfl] at ek1
  have ek2 := w_eq wBack [99, 108, 111, 115, 101]
  rw [show decide (wBack = [99, 108, 111, 115, 101]) = false from rfl] at ek2
  have ek3 := w_eq wBack [116, 105, 109, 101, 115]
  rw [show decide (wBack = [116, 105, 109, 101, 115]) = false from rfl] at ek3
  have ek4 := w_eq wBack [98, 97, 99, 107]
  rw [show decide (wBack = [98, 97, 99, 107]) = true from rfl] at ek4
  generalize wBack = wk at ek0 ek1 ek2 ek3 ek4 ⊢
  obtain ⟨L, hL⟩ : ∃ L : Int, (xs.length : Int) = L := ⟨_, rfl⟩
  rw [hL] at l2
  obtain ⟨M, hM⟩ : ∃ M : Int, (ys.length : Int) = M := ⟨_, rfl⟩
  rw [hM] at yl
  simp [a_voice_rule, hL, l2, s0, sl, hM, yl, y0, h1, h2, h3, lk, ii, ek0, ek1, ek2, ek3, ek4, R.noEr, newD]
theorem voice_Held (k : Nat) (t : D) (xs ys : List D) (v n y : Int) (row : D) (l2 : (1 : Int) < xs.length) (s0 : subD (.lst xs) (.int 0) = .ok (.int v)) (sl : slcD (.lst xs) (some 1) none = .ok (.fr ys)) (yl : (ys.length : Int) = 1) (y0 : subD (.lst ys) (.int 0) = .ok (.int y)) (h1 : 1 ≤ v) (h2 : v ≤ n) (h3 : 1 ≤ y) :
    mir (k + 3) "voice_rule" [t, .str wHeld, .lst xs, .int n, row] = .ok (.d (.ins "Held" ["told", "voice", "most"] [t, .int (v - 1), .int y])) := by
  refine (mirN_run (d := a_voice_rule) rfl _).trans ((run_0 rfl).trans ?_)
  have lk : mirN defs (k + 2) "look_at" [.bl true, row] = _ := look_t (k + 1) row
  have ii : mirN defs (k + 2) "Held.__init__" [.ins "Held" [] [], t, .int (v - 1), .int y] = _ := i_Held k _ _ _
  have ek0 := w_eq wHeld [109, 111, 118, 101]
  rw [show decide (wHeld = [109, 111, 118, 101]) = false from rfl] at ek0
  have ek1 := w_eq wHeld [98, 101, 103, 105, 110]
  rw [show decide (wHeld = [98, 101, 103, 105, 110]) = false from rfl] at ek1
  have ek2 := w_eq wHeld [99, 108, 111, 115, 101]
  rw [show decide (wHeld = [99, 108, 111, 115, 101]) = false from rfl] at ek2
  have ek3 := w_eq wHeld [116, 105, 109, 101, 115]
  rw [show decide (wHeld = [116, 105, 109, 101, 115]) = false from rfl] at ek3
  have ek4 := w_eq wHeld [98, 97, 99, 107]
  rw [show decide (wHeld = [98, 97, 99, 107]) = false from rfl] at ek4
  have ek5 := w_eq wHeld [104, 101, 108, 100]
  rw [show decide (wHeld = [104, 101, 108, 100]) = true from rfl] at ek5
  generalize wHeld = wk at ek0 ek1 ek2 ek3 ek4 ek5 ⊢
  obtain ⟨L, hL⟩ : ∃ L : Int, (xs.length : Int) = L := ⟨_, rfl⟩
  rw [hL] at l2
  obtain ⟨M, hM⟩ : ∃ M : Int, (ys.length : Int) = M := ⟨_, rfl⟩
  rw [hM] at yl
  simp [a_voice_rule, hL, l2, s0, sl, hM, yl, y0, h1, h2, h3, lk, ii, ek0, ek1, ek2, ek3, ek4, ek5, R.noEr, newD]
abbrev R0 (t : Tx) (n : Int) (row : D) : Sg := [.fz (.str t), .fz (.int n), .fz row, .no, .no, .no]
theorem read_col (k : Nat) (t : Tx) (kd row d : D) (W W1 is : List D) (n : Int) (b : Bool) (sp : m1D .split t (.str [32]) = .ok (.fr W)) (w0 : subD (.lst W) (.int 0) = .ok kd) (w1 : slcD (.lst W) (some 1) none = .ok (.fr W1)) (nm : mirN defs (k + 4) "numbers_of" [.lst W1, row] = .ok (.fr is))
    (e1 : cmpD .eq kd (.str [101, 118, 101, 114, 121]) = .ok false) (e2 : cmpD .eq kd (.str [115, 112, 97, 110]) = .ok b) (e3 : b = false → cmpD .eq kd (.str [99, 108, 111, 99, 107]) = .ok true) (cr : mirN defs (k + 4) "column_rule" [.str t, kd, .lst is, .int n, row] = .ok (.d d)) : (exes (mirN defs (k + 4)) a_read_rule.body (R0 t n row)).val = .ok (.d d) := by
  cases b with
  | true => simp [a_read_rule, sp, w0, w1, nm, e1, e2, cr]
  | false =>
    have e3 := e3 rfl
    simp [a_read_rule, sp, w0, w1, nm, e1, e2, e3, cr]
theorem read_alike (k : Nat) (t : Tx) (kd row d : D) (W W1 is : List D) (n : Int) (sp : m1D .split t (.str [32]) = .ok (.fr W)) (w0 : subD (.lst W) (.int 0) = .ok kd) (w1 : slcD (.lst W) (some 1) none = .ok (.fr W1)) (nm : mirN defs (k + 4) "numbers_of" [.lst W1, row] = .ok (.fr is))
    (e1 : cmpD .eq kd (.str [101, 118, 101, 114, 121]) = .ok false) (e2 : cmpD .eq kd (.str [115, 112, 97, 110]) = .ok false) (e3 : cmpD .eq kd (.str [99, 108, 111, 99, 107]) = .ok false) (e4 : cmpD .eq kd (.str [97, 108, 105, 107, 101]) = .ok true) (cr : mirN defs (k + 4) "alike_rule" [.str t, .lst is, .int n, row] = .ok (.d d)) : (exes (mirN defs (k + 4)) a_read_rule.body (R0 t n row)).val = .ok (.d d) := by
  simp [a_read_rule, sp, w0, w1, nm, e1, e2, e3, e4, cr]
theorem read_voice (k : Nat) (t : Tx) (kd row d : D) (W W1 is : List D) (n : Int) (sp : m1D .split t (.str [32]) = .ok (.fr W)) (w0 : subD (.lst W) (.int 0) = .ok kd) (w1 : slcD (.lst W) (some 1) none = .ok (.fr W1)) (nm : mirN defs (k + 4) "numbers_of" [.lst W1, row] = .ok (.fr is))
    (e1 : cmpD .eq kd (.str [101, 118, 101, 114, 121]) = .ok false) (e2 : cmpD .eq kd (.str [115, 112, 97, 110]) = .ok false) (e3 : cmpD .eq kd (.str [99, 108, 111, 99, 107]) = .ok false) (e4 : cmpD .eq kd (.str [97, 108, 105, 107, 101]) = .ok false) (cr : mirN defs (k + 4) "voice_rule" [.str t, kd, .lst is, .int n, row] = .ok (.d d)) : (exes (mirN defs (k + 4)) a_read_rule.body (R0 t n row)).val = .ok (.d d) := by
  simp [a_read_rule, sp, w0, w1, nm, e1, e2, e3, e4, cr]
theorem w_ne (a b : Tx) (h : decide (a = b) = false) (ha : Pl 16777216 a := by exact ⟨by decide, by decide⟩) (g : Pl 16777216 b := by exact ⟨by decide, by decide⟩) : cmpD .eq (.str a) (.str b) = .ok false := by rw [eq_str ha g, h]
theorem w_is (a b : Tx) (h : decide (a = b) = true) (ha : Pl 16777216 a := by exact ⟨by decide, by decide⟩) (g : Pl 16777216 b := by exact ⟨by decide, by decide⟩) : cmpD .eq (.str a) (.str b) = .ok true := by rw [eq_str ha g, h]
theorem lt_len {xs : List Int} {n : Nat} (h : n < xs.length) : ((n : Nat) : Int) < (intsD xs).length := by rw [intsD_len]; omega
theorem sub_at {xs : List Int} {i : Nat} {x : Int} (h : xs[i]? = some x) : subD (.lst (intsD xs)) (.int (i : Int)) = .ok (.int x) := by
  have hi : i < xs.length := (List.getElem?_eq_some_iff.mp h).1
  rw [sub_lst (intsD_at hi)]
  rw [List.getElem?_eq_getElem hi] at h
  rw [Option.some.inj h]
theorem read_flat (k : Nat) (n : Nat) (hn : n ≤ 1000) (r : Rul) (h : r.Ok n) (hf : r.flat = true) (row : D) : (exes (mirN defs (k + 4)) a_read_rule.body (R0 r.text n row)).val = .ok (.d r.d) := by
  obtain ⟨h1, h2, h3⟩ := Rul.nums_ok hn h hf
  obtain ⟨g1, g2⟩ := flat_words hn h hf
  have hw := Rul.words_eq hf
  have sp := (split_words g1 (by omega) (by rw [hw]; exact List.cons_ne_nil _ _)).1
  have w0 : subD (.lst (strsD r.words)) (.int ((0 : Nat) : Int)) = .ok (.str r.kind) := by rw [hw]; exact sub_lst rfl
  have w1 := slc_strs_from r.words 1
  rw [hw, List.drop_succ_cons, List.drop_zero, ← hw] at w1
  have nm : mirN defs (k + 4) "numbers_of" [.lst (strsD (r.nums.map itx)), row] = _ := numbers_eq (k + 2) r.nums row h1 (by omega)
  cases r with
  | every m a r => cases hf
  | span a b s =>
    obtain ⟨ha, hb, hs⟩ := h
    refine read_col k _ _ row _ _ _ _ n true sp w0 w1 nm (w_ne wSpan _ rfl) (w_is wSpan _ rfl) (fun h => nomatch h) ?_
    have e := column_span (k + 1) (.str (Rul.span a b s).text) (intsD (Rul.span a b s).nums) ((a : Int) + 1) ((b : Int) + 1) n s row (lt_len (n := 2) (by have := hs.lo; simp [Rul.nums]; omega)) (sub_at (i := 0) rfl) (sub_at (i := 1) rfl) (slc_ints_from _ 2) (by omega) (by omega) (by omega) (by omega) hs
    rw [Int.add_sub_cancel, Int.add_sub_cancel] at e
    exact e
  | clock a b m s =>
    obtain ⟨ha, hb, hm, hs⟩ := h
    refine read_col k _ _ row _ _ _ _ n false sp w0 w1 nm (w_ne wClock _ rfl) (w_ne wClock _ rfl) (fun _ => w_is wClock _ rfl) ?_
    have e := column_clock (k + 1) (.str (Rul.clock a b m s).text) (intsD (Rul.clock a b m s).nums) ((a : Int) + 1) ((b : Int) + 1) m n s row (lt_len (n := 2) (by simp [Rul.nums])) (sub_at (i := 0) rfl) (sub_at (i := 1) rfl) (sub_at (i := 2) rfl) (slc_ints_from _ 3) (by omega) (by omega) (by omega) (by omega) hm.1 hs
    rw [Int.add_sub_cancel, Int.add_sub_cancel] at e
    exact e
  | alike a b s =>
    obtain ⟨ha, hb, hs⟩ := h
    refine read_alike k _ _ row _ _ _ _ n sp w0 w1 nm (w_ne wAlike _ rfl) (w_ne wAlike _ rfl) (w_ne wAlike _ rfl) (w_is wAlike _ rfl) ?_
    have e := alike_eq (k + 1) (.str (Rul.alike a b s).text) (intsD (Rul.alike a b s).nums) ((a : Int) + 1) ((b : Int) + 1) n s row (lt_len (n := 2) (by have := hs.lo; simp [Rul.nums]; omega)) (sub_at (i := 0) rfl) (sub_at (i := 1) rfl) (slc_ints_from _ 2) (by omega) (by omega) (by omega) (by omega) hs
    rw [Int.add_sub_cancel, Int.add_sub_cancel] at e
    exact e
  | move v s =>
    obtain ⟨hv, hs⟩ := h
    refine read_voice k _ _ row _ _ _ _ n sp w0 w1 nm (w_ne wMove _ rfl) (w_ne wMove _ rfl) (w_ne wMove _ rfl) (w_ne wMove _ rfl) ?_
    have e := voice_Move (k + 1) (.str (Rul.move v s).text) (intsD (Rul.move v s).nums) ((v : Int) + 1) n s row (lt_len (n := 1) (by have := hs.lo; simp [Rul.nums]; omega)) (sub_at (i := 0) rfl) (slc_ints_from _ 1) (by omega) (by omega) hs
    rw [Int.add_sub_cancel] at e
    exact e
  | begin v s =>
    obtain ⟨hv, hs⟩ := h
    refine read_voice k _ _ row _ _ _ _ n sp w0 w1 nm (w_ne wBegin _ rfl) (w_ne wBegin _ rfl) (w_ne wBegin _ rfl) (w_ne wBegin _ rfl) ?_
    have e := voice_Begin (k + 1) (.str (Rul.begin v s).text) (intsD (Rul.begin v s).nums) ((v : Int) + 1) n s row (lt_len (n := 1) (by have := hs.lo; simp [Rul.nums]; omega)) (sub_at (i := 0) rfl) (slc_ints_from _ 1) (by omega) (by omega) hs
    rw [Int.add_sub_cancel] at e
    exact e
  | close v s =>
    obtain ⟨hv, hs⟩ := h
    refine read_voice k _ _ row _ _ _ _ n sp w0 w1 nm (w_ne wClose _ rfl) (w_ne wClose _ rfl) (w_ne wClose _ rfl) (w_ne wClose _ rfl) ?_
    have e := voice_Close (k + 1) (.str (Rul.close v s).text) (intsD (Rul.close v s).nums) ((v : Int) + 1) n s row (lt_len (n := 1) (by have := hs.lo; simp [Rul.nums]; omega)) (sub_at (i := 0) rfl) (slc_ints_from _ 1) (by omega) (by omega) hs
    rw [Int.add_sub_cancel] at e
    exact e
  | back v y =>
    obtain ⟨hv, hy, _⟩ := h
    refine read_voice k _ _ row _ _ _ _ n sp w0 w1 nm (w_ne wBack _ rfl) (w_ne wBack _ rfl) (w_ne wBack _ rfl) (w_ne wBack _ rfl) ?_
    have e := voice_Back (k + 1) (.str (Rul.back v y).text) (intsD (Rul.back v y).nums) (intsD [y]) ((v : Int) + 1) n y row (lt_len (n := 1) (by simp [Rul.nums])) (sub_at (i := 0) rfl) (slc_ints_from _ 1) rfl (sub_at (i := 0) rfl) (by omega) (by omega) hy
    rw [Int.add_sub_cancel] at e
    exact e
  | held v y =>
    obtain ⟨hv, hy, _⟩ := h
    refine read_voice k _ _ row _ _ _ _ n sp w0 w1 nm (w_ne wHeld _ rfl) (w_ne wHeld _ rfl) (w_ne wHeld _ rfl) (w_ne wHeld _ rfl) ?_
    have e := voice_Held (k + 1) (.str (Rul.held v y).text) (intsD (Rul.held v y).nums) (intsD [y]) ((v : Int) + 1) n y row (lt_len (n := 1) (by simp [Rul.nums])) (sub_at (i := 0) rfl) (slc_ints_from _ 1) rfl (sub_at (i := 0) rfl) (by omega) (by omega) hy
    rw [Int.add_sub_cancel] at e
    exact e
  | times v x lo hi =>
    obtain ⟨hv, _, hlo, hhi, _⟩ := h
    refine read_voice k _ _ row _ _ _ _ n sp w0 w1 nm (w_ne wTimes _ rfl) (w_ne wTimes _ rfl) (w_ne wTimes _ rfl) (w_ne wTimes _ rfl) ?_
    have e := voice_Times (k + 1) (.str (Rul.times v x lo hi).text) (intsD (Rul.times v x lo hi).nums) (intsD [x, lo, hi]) ((v : Int) + 1) n x lo hi row (lt_len (n := 1) (by simp [Rul.nums])) (sub_at (i := 0) rfl) (slc_ints_from _ 1) rfl (sub_at (i := 0) rfl) (sub_at (i := 1) rfl) (sub_at (i := 2) rfl) (by omega) (by omega) hlo.1 hhi
    rw [Int.add_sub_cancel] at e
    exact e
theorem read2_flat (k : Nat) (n : Nat) (hn : n ≤ 1000) (r : Rul) (h : r.Ok n) (hf : r.flat = true) : mir (k + 5) "read_rule" [.str r.text, .int (n : Int)] = .ok (.d r.d) :=
  (mirN_run (d := a_read_rule) rfl _).trans ((run_of (by simp [a_read_rule])).trans (read_flat k n hn r h hf (.int 0)))
theorem read3_flat (k : Nat) (n : Nat) (hn : n ≤ 1000) (r : Rul) (h : r.Ok n) (hf : r.flat = true) (row : D) : mir (k + 5) "read_rule" [.str r.text, .int (n : Int), row] = .ok (.d r.d) :=
  (mirN_run (d := a_read_rule) rfl _).trans ((run_0 rfl).trans (read_flat k n hn r h hf row))
theorem start_eq (k : Nat) (r : Rul) : mir (k + 1) (r.cls ++ "." ++ "start") [r.d] = .ok (.d (.int 0)) := by
  cases r with
  | span a b s => exact (mirN_run (d := a_Span_start) rfl _).trans ((run_0 rfl).trans (by simp [a_Span_start, a_Span_start]))
  | clock a b m s => exact (mirN_run (d := a_Clock_start) rfl _).trans ((run_0 rfl).trans (by simp [a_Clock_start, a_Span_start]))
  | move v s => exact (mirN_run (d := a_Move_start) rfl _).trans ((run_0 rfl).trans (by simp [a_Move_start, a_Span_start]))
  | alike a b s => exact (mirN_run (d := a_Alike_start) rfl _).trans ((run_0 rfl).trans (by simp [a_Alike_start, a_Span_start]))
  | back v y => exact (mirN_run (d := a_Back_start) rfl _).trans ((run_0 rfl).trans (by simp [a_Back_start, a_Span_start]))
  | held v y => exact (mirN_run (d := a_Held_start) rfl _).trans ((run_0 rfl).trans (by simp [a_Held_start, a_Span_start]))
  | times v x lo hi => exact (mirN_run (d := a_Times_start) rfl _).trans ((run_0 rfl).trans (by simp [a_Times_start, a_Span_start]))
  | begin v s => exact (mirN_run (d := a_Begin_start) rfl _).trans ((run_0 rfl).trans (by simp [a_Begin_start, a_Span_start]))
  | close v s => exact (mirN_run (d := a_Close_start) rfl _).trans ((run_0 rfl).trans (by simp [a_Close_start, a_Span_start]))
  | every m a r => exact (mirN_run (d := a_Every_start) rfl _).trans ((run_0 rfl).trans (by simp [a_Every_start, a_Span_start]))
theorem size_eq (k : Nat) (r : Rul) : mir (k + 1) (r.cls ++ "." ++ "size") [r.d] = .ok (.d (.int r.size)) := by
  cases r with
  | span a b s => exact (mirN_run (d := a_Span_size) rfl _).trans ((run_0 rfl).trans (by simp [a_Span_size, a_Span_size, Rul.size, d_span, fldD, lookup_if, optR]))
  | clock a b m s => exact (mirN_run (d := a_Clock_size) rfl _).trans ((run_0 rfl).trans (by simp [a_Clock_size, a_Span_size, Rul.size, d_clock, fldD, lookup_if, optR]))
  | move v s => exact (mirN_run (d := a_Move_size) rfl _).trans ((run_0 rfl).trans (by simp [a_Move_size, a_Span_size, Rul.size, d_move, fldD, lookup_if, optR]))
  | alike a b s => exact (mirN_run (d := a_Alike_size) rfl _).trans ((run_0 rfl).trans (by simp [a_Alike_size, a_Span_size, Rul.size, d_alike, fldD, lookup_if, optR]))
  | back v y => exact (mirN_run (d := a_Back_size) rfl _).trans ((run_0 rfl).trans (by simp [a_Back_size, a_Span_size, Rul.size, d_back, fldD, lookup_if, optR]))
  | held v y => exact (mirN_run (d := a_Held_size) rfl _).trans ((run_0 rfl).trans (by simp [a_Held_size, a_Span_size, Rul.size, d_held, fldD, lookup_if, optR]))
  | times v x lo hi => exact (mirN_run (d := a_Times_size) rfl _).trans ((run_0 rfl).trans (by simp [a_Times_size, a_Span_size, Rul.size, d_times, fldD, lookup_if, optR]))
  | begin v s => exact (mirN_run (d := a_Begin_size) rfl _).trans ((run_0 rfl).trans (by simp [a_Begin_size, a_Span_size, Rul.size, d_begin, fldD, lookup_if, optR]))
  | close v s => exact (mirN_run (d := a_Close_size) rfl _).trans ((run_0 rfl).trans (by simp [a_Close_size, a_Span_size, Rul.size, d_close, fldD, lookup_if, optR]))
  | every m a r => exact (mirN_run (d := a_Every_size) rfl _).trans ((run_0 rfl).trans (by simp [a_Every_size, a_Span_size, Rul.size, d_every, fldD, lookup_if, optR]))
theorem closes_eq (k : Nat) (n : Nat) (r : Rul) (h : r.Ok n) (m : Int) (b : Option (List Int)) (hb : ∀ p, b = some p → p.length = n) : mir (k + 1) (r.cls ++ "." ++ "closes") [r.d, .int m, bD b] = .ok (.d (.bl (r.closes m b))) := by
  cases r with
  | span a b s => exact (mirN_run (d := a_Span_closes) rfl _).trans ((run_0 rfl).trans (by simp [a_Span_closes, a_Span_closes, Rul.closes, d_span, fldD, lookup_if, optR]))
  | clock a b m s => exact (mirN_run (d := a_Clock_closes) rfl _).trans ((run_0 rfl).trans (by simp [a_Clock_closes, a_Span_closes, Rul.closes, d_clock, fldD, lookup_if, optR]))
  | move v s => exact (mirN_run (d := a_Move_closes) rfl _).trans ((run_0 rfl).trans (by simp [a_Move_closes, a_Span_closes, Rul.closes, d_move, fldD, lookup_if, optR]))
  | alike a b s => exact (mirN_run (d := a_Alike_closes) rfl _).trans ((run_0 rfl).trans (by simp [a_Alike_closes, a_Span_closes, Rul.closes, d_alike, fldD, lookup_if, optR]))
  | back v y => exact (mirN_run (d := a_Back_closes) rfl _).trans ((run_0 rfl).trans (by simp [a_Back_closes, a_Span_closes, Rul.closes, d_back, fldD, lookup_if, optR]))
  | held v y => exact (mirN_run (d := a_Held_closes) rfl _).trans ((run_0 rfl).trans (by simp [a_Held_closes, a_Span_closes, Rul.closes, d_held, fldD, lookup_if, optR]))
  | times v x lo hi => exact (mirN_run (d := a_Times_closes) rfl _).trans ((run_0 rfl).trans (by simp [a_Times_closes, a_Span_closes, Rul.closes, d_times, fldD, lookup_if, optR]))
  | begin v s => exact (mirN_run (d := a_Begin_closes) rfl _).trans ((run_0 rfl).trans (by simp [a_Begin_closes, a_Span_closes, Rul.closes, d_begin, fldD, lookup_if, optR]))
  | close v s =>
    refine (mirN_run (d := a_Close_closes) rfl _).trans ((run_0 rfl).trans ?_)
    cases b with
    | none => simp [a_Close_closes, Rul.closes]
    | some c =>
      have e := sub_nt (c := c) (v := v) (by rw [hb c rfl]; exact h.1)
      simp [a_Close_closes, d_close, Rul.closes, fldD, lookup_if, optR, e]
  | every m a r => exact (mirN_run (d := a_Every_closes) rfl _).trans ((run_0 rfl).trans (by simp [a_Every_closes, a_Span_closes, Rul.closes, d_every, fldD, lookup_if, optR]))
theorem after_flat (k : Nat) (n : Nat) (r : Rul) (h : r.Ok n) (hf : r.flat = true) (m : Int) (b : Option (List Int)) (c : List Int) (hc : c.length = n) (hb : ∀ p, b = some p → p.length = n) : mir (k + 1) (r.cls ++ "." ++ "after") [r.d, .int m, bD b, .tup (intsD c)] = .ok (.d (oD (r.after m b c))) := by
  cases r with
  | every m a r => cases hf
  | span x y s =>
    refine (mirN_run (d := a_Span_after) rfl _).trans ((run_0 rfl).trans ?_)
    have e1 := sub_nt (c := c) (v := x) (by rw [hc]; exact h.1)
    have e2 := sub_nt (c := c) (v := y) (by rw [hc]; exact h.2.1)
    by_cases g : nt c y - nt c x ∈ s
    · simp [a_Span_after, d_span, fldD, lookup_if, optR, e1, e2, Rul.after, g]
    · simp [a_Span_after, d_span, fldD, lookup_if, optR, e1, e2, Rul.after, g]
  | clock x y z s =>
    refine (mirN_run (d := a_Clock_after) rfl _).trans ((run_0 rfl).trans ?_)
    have e1 := sub_nt (c := c) (v := x) (by rw [hc]; exact h.1)
    have e2 := sub_nt (c := c) (v := y) (by rw [hc]; exact h.2.1)
    have hz : 0 < z := by have := h.2.2.1.1; omega
    by_cases g : (nt c y - nt c x) % z ∈ s
    · simp [a_Clock_after, d_clock, fldD, lookup_if, optR, e1, e2, Rul.after, hz, g]
    · simp [a_Clock_after, d_clock, fldD, lookup_if, optR, e1, e2, Rul.after, hz, g]
  | begin v s =>
    refine (mirN_run (d := a_Begin_after) rfl _).trans ((run_0 rfl).trans ?_)
    have e1 := sub_nt (c := c) (v := v) (by rw [hc]; exact h.1)
    cases b with
    | none =>
      by_cases g : nt c v ∈ s
      · simp [a_Begin_after, d_begin, fldD, lookup_if, optR, e1, Rul.after, g]
      · simp [a_Begin_after, d_begin, fldD, lookup_if, optR, e1, Rul.after, g]
    | some p => simp [a_Begin_after, d_begin, fldD, lookup_if, optR, e1, Rul.after]
  | close v s => exact (mirN_run (d := a_Close_after) rfl _).trans ((run_0 rfl).trans (by simp [a_Close_after, Rul.after]))
  | move v s =>
    refine (mirN_run (d := a_Move_after) rfl _).trans ((run_0 rfl).trans ?_)
    have e1 := sub_nt (c := c) (v := v) (by rw [hc]; exact h.1)
    cases b with
    | none => simp [a_Move_after, d_move, fldD, lookup_if, optR, e1, Rul.after]
    | some p =>
      have e2 := sub_nt (c := p) (v := v) (by rw [hb p rfl]; exact h.1)
      by_cases g : nt c v - nt p v ∈ s
      · simp [a_Move_after, d_move, fldD, lookup_if, optR, e1, e2, Rul.after, g]
      · simp [a_Move_after, d_move, fldD, lookup_if, optR, e1, e2, Rul.after, g]
  | alike x y s =>
    refine (mirN_run (d := a_Alike_after) rfl _).trans ((run_0 rfl).trans ?_)
    have e1 := sub_nt (c := c) (v := x) (by rw [hc]; exact h.1)
    have e2 := sub_nt (c := c) (v := y) (by rw [hc]; exact h.2.1)
    cases b with
    | none => simp [a_Alike_after, d_alike, fldD, lookup_if, optR, e1, e2, Rul.after]
    | some p =>
      have e3 := sub_nt (c := p) (v := x) (by rw [hb p rfl]; exact h.1)
      have e4 := sub_nt (c := p) (v := y) (by rw [hb p rfl]; exact h.2.1)
      by_cases g : nt c x = nt p x
      · simp [a_Alike_after, d_alike, fldD, lookup_if, optR, e1, e2, e3, e4, Rul.after, g]
      · generalize hcx : nt c x = cx at *
        generalize hcy : nt c y = cy at *
        generalize hpx : nt p x = px at *
        generalize hpy : nt p y = py at *
        by_cases g2 : cy - cx = py - px
        · by_cases g3 : cy - cx ∈ s
          · have g4 := g3
            rw [g2] at g4
            simp [a_Alike_after, d_alike, fldD, lookup_if, optR, e1, e2, e3, e4, Rul.after, g, g2, g3, g4, hcx, hcy, hpx, hpy]
          · have g4 := g3
            rw [g2] at g4
            simp [a_Alike_after, d_alike, fldD, lookup_if, optR, e1, e2, e3, e4, Rul.after, g, g2, g3, g4, hcx, hcy, hpx, hpy]
        · simp [a_Alike_after, d_alike, fldD, lookup_if, optR, e1, e2, e3, e4, Rul.after, g, g2, hcx, hcy, hpx, hpy]
  | back v d =>
    refine (mirN_run (d := a_Back_after) rfl _).trans ((run_0 rfl).trans ?_)
    have e1 := sub_nt (c := c) (v := v) (by rw [hc]; exact h.1)
    cases b with
    | none => simp [a_Back_after, d_back, fldD, lookup_if, optR, e1, Rul.after]
    | some p =>
      have e2 := sub_nt (c := p) (v := v) (by rw [hb p rfl]; exact h.1)
      generalize hw : nt c v - nt p v = w at *
      by_cases g : m = 1 ∧ 0 ≤ w ∨ m = 2 ∧ w ≤ 0
      · rcases g with ⟨rfl, g2⟩ | ⟨rfl, g2⟩
        · simp [a_Back_after, d_back, fldD, lookup_if, optR, e1, e2, hw, Rul.after, g2]
        · simp [a_Back_after, d_back, fldD, lookup_if, optR, e1, e2, hw, Rul.after, g2]
      · have g1 : ¬ (m = 1 ∧ 0 ≤ w) := fun z => g (.inl z)
        have g2 : ¬ (m = 2 ∧ w ≤ 0) := fun z => g (.inr z)
        have pre : ∀ o : Out, True := fun _ => trivial
        by_cases gd : d < w
        · by_cases m1 : m = 1
          · have g1' : ¬ 0 ≤ w := fun z => g1 ⟨m1, z⟩
            subst m1
            simp [a_Back_after, d_back, fldD, lookup_if, optR, e1, e2, hw, Rul.after, g1', gd]
          · by_cases m2 : m = 2
            · have g2' : ¬ w ≤ 0 := fun z => g2 ⟨m2, z⟩
              subst m2
              simp [a_Back_after, d_back, fldD, lookup_if, optR, e1, e2, hw, Rul.after, g2', gd]
            · simp [a_Back_after, d_back, fldD, lookup_if, optR, e1, e2, hw, Rul.after, m1, m2, gd]
        · by_cases gl : w < 0 - d
          · by_cases m1 : m = 1
            · have g1' : ¬ 0 ≤ w := fun z => g1 ⟨m1, z⟩
              subst m1
              simp at gl
              simp [a_Back_after, d_back, fldD, lookup_if, optR, e1, e2, hw, Rul.after, g1', gd, gl]
            · by_cases m2 : m = 2
              · have g2' : ¬ w ≤ 0 := fun z => g2 ⟨m2, z⟩
                subst m2
                simp at gl
                simp [a_Back_after, d_back, fldD, lookup_if, optR, e1, e2, hw, Rul.after, g2', gd, gl]
              · simp at gl
                simp [a_Back_after, d_back, fldD, lookup_if, optR, e1, e2, hw, Rul.after, m1, m2, gd, gl]
          · by_cases m1 : m = 1
            · have g1' : ¬ 0 ≤ w := fun z => g1 ⟨m1, z⟩
              subst m1
              have gl : ¬ w < -d := by omega
              simp [a_Back_after, d_back, fldD, lookup_if, optR, e1, e2, hw, Rul.after, g1', gd, gl]
            · by_cases m2 : m = 2
              · have g2' : ¬ w ≤ 0 := fun z => g2 ⟨m2, z⟩
                subst m2
                have gl : ¬ w < -d := by omega
                simp [a_Back_after, d_back, fldD, lookup_if, optR, e1, e2, hw, Rul.after, g2', gd, gl]
              · have gl : ¬ w < -d := by omega
                simp [a_Back_after, d_back, fldD, lookup_if, optR, e1, e2, hw, Rul.after, m1, m2, gd, gl]
  | held v d =>
    refine (mirN_run (d := a_Held_after) rfl _).trans ((run_0 rfl).trans ?_)
    have e1 := sub_nt (c := c) (v := v) (by rw [hc]; exact h.1)
    cases b with
    | none => simp [a_Held_after, d_held, fldD, lookup_if, optR, e1, Rul.after]
    | some p =>
      have e2 := sub_nt (c := p) (v := v) (by rw [hb p rfl]; exact h.1)
      by_cases g : nt c v = nt p v
      · by_cases g2 : m + 1 = d
        · simp [a_Held_after, d_held, fldD, lookup_if, optR, e1, e2, Rul.after, g, g2]
        · simp [a_Held_after, d_held, fldD, lookup_if, optR, e1, e2, Rul.after, g, g2]
      · simp [a_Held_after, d_held, fldD, lookup_if, optR, e1, e2, Rul.after, g]
  | times v x lo hi =>
    refine (mirN_run (d := a_Times_after) rfl _).trans ((run_0 rfl).trans ?_)
    have e1 := sub_nt (c := c) (v := v) (by rw [hc]; exact h.1)
    by_cases g : nt c v = x
    · by_cases g2 : m = hi
      · simp [a_Times_after, d_times, fldD, lookup_if, optR, e1, Rul.after, g, g2]
      · simp [a_Times_after, d_times, fldD, lookup_if, optR, e1, Rul.after, g, g2]
    · simp [a_Times_after, d_times, fldD, lookup_if, optR, e1, Rul.after, g]
theorem after_eq (k : Nat) (n : Nat) (r : Rul) (h : r.Ok n) (m : Int) (b : Option (List Int)) (c : List Int) (hc : c.length = n) (hb : ∀ p, b = some p → p.length = n) : mir (k + 2) (r.cls ++ "." ++ "after") [r.d, .int m, bD b, .tup (intsD c)] = .ok (.d (oD (r.after m b c))) := by
  by_cases hf : r.flat = true
  · exact after_flat (k + 1) n r h hf m b c hc hb
  · cases r with
    | every q a r =>
      have hr : r.Ok n ∧ r.flat = true ∧ r.cls ∈ ["Span", "Clock"] ∧ 0 < q := by
        cases r with
        | span x y s => exact ⟨⟨h.2.2.1, h.2.2.2.1, h.2.2.2.2⟩, rfl, by simp [Rul.cls], by have := h.1.1; omega⟩
        | clock x y z s => exact ⟨⟨h.2.2.1, h.2.2.2.1, h.2.2.2.2.1, h.2.2.2.2.2⟩, rfl, by simp [Rul.cls], by have := h.1.1; omega⟩
        | _ => exact h.elim
      refine (mirN_run (d := a_Every_after) rfl _).trans ((run_0 rfl).trans ?_)
      have e1 := after_flat k n r hr.1 hr.2.1 0 b c hc hb
      have e2 := start_eq k r
      have e3 := cls_of2 (r := r) (m := "start") (by decide) hr.2.2.1
      have e4 := cls_of2 (r := r) (m := "after") (by decide) hr.2.2.1
      have hq := hr.2.2.2
      by_cases g : m = a
      · cases hz : r.after 0 b c with
        | none =>
          rw [hz] at e1
          simp [a_Every_after, d_every, fldD, lookup_if, optR, e1, e2, e3, e4, hq, g, Rul.after, hz]
        | some z =>
          rw [hz] at e1
          simp [a_Every_after, d_every, fldD, lookup_if, optR, e1, e2, e3, e4, hq, g, Rul.after, hz]
      · simp [a_Every_after, d_every, fldD, lookup_if, optR, e1, e2, e3, e4, hq, g, Rul.after]
    | _ => exact absurd rfl hf
theorem brk_loop (k n : Nat) (r : Rul) (h : r.Ok n) (L : List D) : ∀ (l : List (List Int)) (i : Nat) (m : Int) (b : Option (List Int)) (x y : Sl), i + l.length = L.length → (∀ c ∈ l, c.length = n) → (∀ p, b = some p → p.length = n) →
    ((forL (.tup [4, 5]) (exes (mirN defs (k + 2)) (loopB (dropS 3 a_broken_at.body))) (numD i (colsT l)) [.fz r.d, .fz (.lst L), .fz (.int m), .fz (bD b), x, y]).thn (exes (mirN defs (k + 2)) (dropS 4 a_broken_at.body))).val = .ok (.d (oD (r.brk i m b l)))
  | [], i, m, b, x, y, hl, _, hb => by
    have e := closes_eq (k + 1) n r h m b hb
    have ec := cls_of r (m := "closes") (by decide)
    have hl : (L.length : Int) = i := by rw [← hl]; simp
    rw [colsT_nil]
    cases hz : r.closes m b with
    | true =>
      rw [hz] at e
      simp [numD, dropS, a_broken_at, e, ec, Rul.brk, hz]
    | false =>
      rw [hz] at e
      simp [numD, dropS, a_broken_at, e, ec, Rul.brk, hz, hl]
  | c :: l, i, m, b, x, y, hl, hc, hb => by
    have hcn := hc c (List.mem_cons_self ..)
    have e := after_eq k n r h m b c hcn hb
    have ec := cls_of r (m := "after") (by decide)
    rw [colsT_cons]
    show ((forL (.tup [4, 5]) (exes (mirN defs (k + 2)) (loopB (dropS 3 a_broken_at.body))) (.tup [.int (i : Nat), .tup (intsD c)] :: numD (i + 1) (colsT l)) _).thn _).val = _
    rw [forL_cons]
    cases hz : r.after m b c with
    | none =>
      rw [hz] at e
      have e2 : r.brk i m b (c :: l) = some (i : Int) := by show (match r.after m b c with | none => some (i : Int) | some m' => _) = _; rw [hz]
      rw [e2]
      simp [dropS, loopB, a_broken_at, b_broken_at_0, e, ec]
    | some z =>
      rw [hz] at e
      have e2 : r.brk i m b (c :: l) = r.brk (i + 1) z (some c) l := by show (match r.after m b c with | none => some (i : Int) | some m' => _) = _; rw [hz]
      rw [e2]
      have ih := brk_loop k n r h L l (i + 1) z (some c) (.fz (.int (i : Nat))) (.fz (.tup (intsD c))) (by rw [← hl, List.length_cons]; omega) (fun c' hc' => hc c' (List.mem_cons_of_mem _ hc')) (fun p hp => by cases hp; exact hcn)
      rw [← ih]
      simp [dropS, loopB, a_broken_at, b_broken_at_0, e, ec]
theorem broken_eq (k n : Nat) (r : Rul) (h : r.Ok n) (l : List (List Int)) (hc : ∀ c ∈ l, c.length = n) : mir (k + 3) "broken_at" [r.d, .lst (colsT l)] = .ok (.d (oD (r.broken l))) := by
  refine (mirN_run (d := a_broken_at) rfl _).trans ((run_0 rfl).trans ?_)
  have e := start_eq (k + 1) r
  have ec := cls_of r (m := "start") (by decide)
  have z := brk_loop k n r h (colsT l) l 0 0 none .no .no (by rw [colsT_len]; omega) hc (fun p hp => nomatch hp)
  unfold Rul.broken
  rw [← z]
  simp [dropS, loopB, a_broken_at, b_broken_at_0, e, ec]
theorem every_words {m a : Int} {r : Rul} {n : Nat} (hn : n ≤ 1000) (h : (Rul.every m a r).Ok n) : r.Ok n ∧ r.flat = true ∧ (r.kind = wSpan ∨ r.kind = wClock) ∧ (1 ≤ m ∧ SmI m) ∧ (0 ≤ a ∧ a < m) := by
  cases r with
  | span x y s => exact ⟨⟨h.2.2.1, h.2.2.2.1, h.2.2.2.2⟩, rfl, .inl rfl, h.1, h.2.1⟩
  | clock x y z s => exact ⟨⟨h.2.2.1, h.2.2.2.1, h.2.2.2.2.1, h.2.2.2.2.2⟩, rfl, .inr rfl, h.1, h.2.1⟩
  | _ => exact h.elim
theorem all_words {n : Nat} (hn : n ≤ 1000) {r : Rul} (h : r.Ok n) : (∀ w ∈ r.words, wordOk w) ∧ r.words.length ≤ 19 := by
  by_cases hf : r.flat = true
  · obtain ⟨h1, h2⟩ := flat_words hn h hf
    exact ⟨h1, by omega⟩
  · cases r with
    | every m a r =>
      obtain ⟨g1, g2, _, g4, g5⟩ := every_words hn h
      obtain ⟨h1, h2⟩ := flat_words hn g1 g2
      have sa : SmI a := by have := g4.2; unfold SmI at *; omega
      refine ⟨fun w hw => ?_, by show (wEvery :: itx m :: itx a :: r.words).length ≤ 19; simp only [List.length_cons]; omega⟩
      rcases List.mem_cons.mp hw with rfl | hw
      · exact kind_word (.every m a r)
      rcases List.mem_cons.mp hw with rfl | hw
      · exact itx_word g4.2
      rcases List.mem_cons.mp hw with rfl | hw
      · exact itx_word sa
      exact h1 w hw
    | _ => exact absurd rfl hf
theorem in_two {k : Tx} (h : k = wSpan ∨ k = wClock) : cmpD .inn (.str k) (.tup [.str [115, 112, 97, 110], .str [99, 108, 111, 99, 107]]) = .ok true := by
  have e : cmpD .inn (.str k) (.tup [.str [115, 112, 97, 110], .str [99, 108, 111, 99, 107]]) = if ((D.str k).cl 0 && ([D.str [115, 112, 97, 110], .str [99, 108, 111, 99, 107]].all (D.cl 0))) = true then R.ok (decide (D.str k ∈ [D.str [115, 112, 97, 110], .str [99, 108, 111, 99, 107]])) else .bad := rfl
  rw [e]
  rcases h with rfl | rfl
  · exact (if_pos (by rfl)).trans (by rw [decide_eq_true (by simp [wSpan])])
  · exact (if_pos (by rfl)).trans (by rw [decide_eq_true (by simp [wClock])])
theorem column_eq' (k : Nat) (n : Nat) (hn : n ≤ 1000) (r : Rul) (h : r.Ok n) (hk : r.kind = wSpan ∨ r.kind = wClock) (row : D) : mir (k + 3) "column_rule" [.str r.text, .str r.kind, .lst (intsD r.nums), .int (n : Int), row] = .ok (.d r.d) := by
  cases r with
  | span a b s =>
    obtain ⟨ha, hb, hs⟩ := h
    have e := column_span k (.str (Rul.span a b s).text) (intsD (Rul.span a b s).nums) ((a : Int) + 1) ((b : Int) + 1) n s row (lt_len (n := 2) (by have := hs.lo; simp [Rul.nums]; omega)) (sub_at (i := 0) rfl) (sub_at (i := 1) rfl) (slc_ints_from _ 2) (by omega) (by omega) (by omega) (by omega) hs
    rw [Int.add_sub_cancel, Int.add_sub_cancel] at e
    exact e
  | clock a b m s =>
    obtain ⟨ha, hb, hm, hs⟩ := h
    have e := column_clock k (.str (Rul.clock a b m s).text) (intsD (Rul.clock a b m s).nums) ((a : Int) + 1) ((b : Int) + 1) m n s row (lt_len (n := 2) (by simp [Rul.nums])) (sub_at (i := 0) rfl) (sub_at (i := 1) rfl) (sub_at (i := 2) rfl) (slc_ints_from _ 3) (by omega) (by omega) (by omega) (by omega) hm.1 hs
    rw [Int.add_sub_cancel, Int.add_sub_cancel] at e
    exact e
  | _ => rcases hk with h | h <;> exact absurd h (by simp [Rul.kind, wSpan, wClock, wMove, wAlike, wBack, wHeld, wTimes, wBegin, wClose, wEvery])
theorem every_eq (k : Nat) (n : Nat) (hn : n ≤ 1000) (m a : Int) (r : Rul) (h : (Rul.every m a r).Ok n) (t row : D) : mir (k + 4) "every_rule" [t, .lst (strsD (Rul.every m a r).words), .int (n : Int), row] = .ok (.d (.ins "Every" ["told", "beat", "at", "rule"] [t, .int m, .int a, r.d])) := by
  refine (mirN_run (d := a_every_rule) rfl _).trans ((run_0 rfl).trans ?_)
  obtain ⟨g1, g2, g3, g4, g5⟩ := every_words hn h
  obtain ⟨h1, h2, h3⟩ := Rul.nums_ok hn g1 g2
  obtain ⟨w1, w2⟩ := flat_words hn g1 g2
  have sa : SmI a := by have := g4.2; unfold SmI at *; omega
  have hw : r.words = r.kind :: r.nums.map itx := Rul.words_eq g2
  have ew : (Rul.every m a r).words = wEvery :: itx m :: itx a :: r.words := rfl
  have wl : (3 : Int) < (strsD (Rul.every m a r).words).length := by rw [strsD_len, ew, hw]; simp only [List.length_cons]; omega
  have s3 : subD (.lst (strsD (Rul.every m a r).words)) (.int ((3 : Nat) : Int)) = .ok (.str r.kind) := by rw [ew, hw]; exact sub_lst rfl
  have c13 : slcD (.lst (strsD (Rul.every m a r).words)) (some ((1 : Nat) : Int)) (some ((3 : Nat) : Int)) = .ok (.fr (strsD [itx m, itx a])) := by
    show R.ok (Val.fr (cut _ _ _)) = _
    rw [cut_mid, strsD_drop, strsD_take, ew]; rfl
  have c3 : slcD (.lst (strsD (Rul.every m a r).words)) (some ((3 : Nat) : Int)) none = .ok (.fr (strsD r.words)) := by rw [slc_strs_from, ew]; rfl
  have c4 : slcD (.lst (strsD (Rul.every m a r).words)) (some ((4 : Nat) : Int)) none = .ok (.fr (strsD (r.nums.map itx))) := by rw [slc_strs_from, ew, hw]; rfl
  have c13 : slcD (.lst (strsD (Rul.every m a r).words)) (some 1) (some 3) = _ := c13
  have c3 : slcD (.lst (strsD (Rul.every m a r).words)) (some 3) none = _ := c3
  have c4 : slcD (.lst (strsD (Rul.every m a r).words)) (some 4) none = _ := c4
  have s3 : subD (.lst (strsD (Rul.every m a r).words)) (.int 3) = _ := s3
  have n2 : mirN defs (k + 3) "numbers_of" [.lst (strsD [itx m, itx a]), row] = .ok (.fr [.int m, .int a]) := numbers_eq (k + 1) [m, a] row (fun i hi => by
    rcases List.mem_cons.mp hi with rfl | hi
    · exact g4.2
    · rw [List.mem_singleton.mp hi]; exact sa) (by simp)
  have nr : mirN defs (k + 3) "numbers_of" [.lst (strsD (r.nums.map itx)), row] = _ := numbers_eq (k + 1) r.nums row h1 (by omega)
  have lk : mirN defs (k + 3) "look_at" [.bl true, row] = _ := look_t (k + 2) row
  have jn : m1D .join [32] (.lst (strsD r.words)) = .ok (.d (.str r.text)) := join_words w1 (by omega)
  have cr : mirN defs (k + 3) "column_rule" [.str r.text, .str r.kind, .lst (intsD r.nums), .int (n : Int), row] = _ := column_eq' k n hn r g1 g3 row
  have ii : mirN defs (k + 3) "Every.__init__" [.ins "Every" [] [], t, .int m, .int a, r.d] = _ := i_Every (k + 1) _ _ _ _
  have it := in_two g3
  obtain ⟨len, hlen⟩ : ∃ len : Int, ((strsD (Rul.every m a r).words).length : Int) = len := ⟨_, rfl⟩
  rw [hlen] at wl
  have m1 := g4.1
  obtain ⟨a0, am⟩ := g5
  generalize strsD (Rul.every m a r).words = W at *
  generalize strsD [itx m, itx a] = W2 at *
  generalize strsD (r.nums.map itx) = W4 at *
  generalize strsD r.words = W3 at *
  generalize intsD r.nums = NN at *
  generalize r.text = TT at *
  generalize r.kind = KK at *
  generalize hd : r.d = dd at *
  simp [a_every_rule, hlen, wl, s3, it, lk, c13, n2, m1, a0, am, c3, jn, c4, nr, cr, ii, R.noEr, newD]
theorem read_all (k : Nat) (n : Nat) (hn : n ≤ 1000) (r : Rul) (h : r.Ok n) (row : D) : (exes (mirN defs (k + 4)) a_read_rule.body (R0 r.text n row)).val = .ok (.d r.d) := by
  by_cases hf : r.flat = true
  · exact read_flat k n hn r h hf row
  · cases r with
    | every m a r =>
      obtain ⟨g1, g2⟩ := all_words hn h
      have sp : m1D .split (Rul.every m a r).text (.str [32]) = .ok (.fr (strsD (Rul.every m a r).words)) := (split_words g1 (by omega) (List.cons_ne_nil _ _)).1
      have w0 : subD (.lst (strsD (Rul.every m a r).words)) (.int 0) = .ok (.str wEvery) := sub_lst (i := 0) rfl
      have e1 := w_is wEvery [101, 118, 101, 114, 121] rfl
      have er : mirN defs (k + 4) "every_rule" [.str (Rul.every m a r).text, .lst (strsD (Rul.every m a r).words), .int (n : Int), row] = _ := every_eq k n hn m a r h (.str (Rul.every m a r).text) row
      have hd : (Rul.every m a r).d = .ins "Every" ["told", "beat", "at", "rule"] [.str (Rul.every m a r).text, .int m, .int a, r.d] := rfl
      rw [hd]
      generalize strsD (Rul.every m a r).words = W at *
      generalize (Rul.every m a r).text = TT at *
      generalize wEvery = ww at *
      simp [a_read_rule, sp, w0, e1, er]
    | _ => exact absurd rfl hf
theorem read2_eq (k : Nat) (n : Nat) (hn : n ≤ 1000) (r : Rul) (h : r.Ok n) : mir (k + 5) "read_rule" [.str r.text, .int (n : Int)] = .ok (.d r.d) :=
  (mirN_run (d := a_read_rule) rfl _).trans ((run_of (by simp [a_read_rule])).trans (read_all k n hn r h (.int 0)))
theorem read3_eq (k : Nat) (n : Nat) (hn : n ≤ 1000) (r : Rul) (h : r.Ok n) (row : D) : mir (k + 5) "read_rule" [.str r.text, .int (n : Int), row] = .ok (.d r.d) :=
  (mirN_run (d := a_read_rule) rfl _).trans ((run_0 rfl).trans (read_all k n hn r h row))
end Lk23
end
section
set_option maxHeartbeats 1000000
namespace Lk23
open Fv
theorem weight_eq (k : Nat) {rg : Rg} {rs : List Rul} {n : Nat} (hg : ∀ p ∈ rg, RgOk p) (hr : ∀ r ∈ rs, r.Ok n) (hB : weightV rg rs ≤ 100000000000000000000000000000000000000000000000000) : mir (k + 2) "weight" [scoD rg rs] = .ok (.d (.int (weightV rg rs))) := by
  refine (mirN_run (d := a_weight) rfl _).trans ((run_0 rfl).trans ?_)
  have f1 : fldD ["Score"] "ranges" (scoD rg rs) = .ok (.lst (rgD rg)) := fld_of (by decide) rfl
  have f2 : fldD ["Score"] "rules" (scoD rg rs) = .ok (.lst (rulD rs)) := fld_of (by decide) rfl
  have hw := heavyR_weight hg hr
  have body : (exes (mirN defs (k + 1)) a_weight.body [.fz (scoD rg rs), .no, .no, .no, .no]) = (forL (.tup [2, 3]) (exes (mirN defs (k + 1)) b_weight_0) (rgD rg) [.fz (scoD rg rs), .fz (.int 1), .no, .no, .no]).thn (exes (mirN defs (k + 1)) (dropS 2 a_weight.body)) := by
    generalize scoD rg rs = S at *
    generalize rgD rg = G at *
    simp [a_weight, dropS, f1]
  have body := congrArg Out.val body
  refine body.trans ?_
  refine for_rule (R := fun o => (o.thn _).val = R.ok (Val.d (.int (weightV rg rs)))) (fun i S => ∃ x y, S = [.fz (scoD rg rs), .fz (.int (heavyR (rg.take i))), x, y, .no]) ⟨_, _, rfl⟩ ?_ ?_
  · rintro i x S hx ⟨x1, x2, rfl⟩
    have hi' : i < rg.length := by
      have := (List.getElem?_eq_some_iff.mp hx).1
      rwa [rgD_len] at this
    rw [rg_at hi'] at hx
    have hx := (Option.some.inj hx).symm
    subst hx
    have v1 := heavyR_pos hg i (by omega)
    have v2 := heavyR_up hg (rg.length - i) i (by omega)
    have g := lohi hi' hg
    have v3 := heavyR_fac hg hi'
    have hv := heavyR_succ hi'
    generalize heavyR (rg.take (i + 1)) = v' at *
    generalize heavyR (rg.take i) = v at *
    subst hv
    generalize lo rg i = l at *
    generalize hi rg i = h at *
    have m1 := mul_sm (i := v) (j := h - l + 1) (by omega) (by omega)
    refine ⟨_, rfl, ?_⟩
    generalize scoD rg rs = S at *
    simp [b_weight_0, m1]
  · rintro S ⟨x1, x2, rfl⟩
    rw [rgD_len, List.take_length]
    have body2 : (exes (mirN defs (k + 1)) (dropS 2 a_weight.body) [.fz (scoD rg rs), .fz (.int (heavyR rg)), x1, x2, .no]) = (forL (.one 4) (exes (mirN defs (k + 1)) b_weight_1) (rulD rs) [.fz (scoD rg rs), .fz (.int (heavyR rg)), x1, x2, .no]).thn (exes (mirN defs (k + 1)) (dropS 3 a_weight.body)) := by
      generalize scoD rg rs = S at *
      generalize rulD rs = G at *
      generalize heavyR rg = H at *
      simp [a_weight, dropS, f2]
    rw [thn_nx, body2]
    refine for_rule (R := fun o => (o.thn _).val = R.ok (Val.d (.int (weightV rg rs)))) (fun i S => ∃ w, S = [.fz (scoD rg rs), .fz (.int (weightV rg (rs.take i))), x1, x2, w]) ⟨_, by rw [List.take_zero]; rfl⟩ ?_ ?_
    · rintro i x S hx ⟨w, rfl⟩
      have hi' : i < rs.length := by
        have := (List.getElem?_eq_some_iff.mp hx).1
        rwa [rulD_len] at this
      rw [rulD_at hi'] at hx
      have hx := (Option.some.inj hx).symm
      subst hx
      refine ⟨_, rfl, ?_⟩
      have ok := hr _ (List.getElem_mem hi')
      have z := size_pos ok
      have v1 := weightV_pos hg hr i (by omega)
      have v2 := weightV_up hg hr (rs.length - i) i (by omega)
      have hv := weightV_succ rg hi'
      have e : mirN defs (k + 1) (rs[i].cls ++ "." ++ "size") [rs[i].d] = _ := size_eq k rs[i]
      have ec := cls_of rs[i] (m := "size") (by decide)
      generalize weightV rg (rs.take (i + 1)) = v' at *
      generalize weightV rg (rs.take i) = v at *
      subst hv
      have m1 := mul_sm (i := v) (j := rs[i].size) (by omega) (by omega)
      generalize scoD rg rs = S at *
      generalize rs[i].size = sz at *
      generalize rs[i].cls = cz at *
      generalize rs[i].d = dz at *
      simp [b_weight_1, e, ec, m1]
    · rintro S ⟨w, rfl⟩
      rw [rulD_len, List.take_length]
      generalize scoD rg rs = S at *
      simp [a_weight, dropS]
theorem i_Score (k : Nat) (rg : Rg) (rs : List Rul) : mir (k + 1) "Score.__init__" [.ins "Score" [] [], .lst (rgD rg), .lst (rulD rs)] = .ok (.d (scoD rg rs)) := by
  refine (mirN_run (d := a_Score_init) rfl _).trans ?_
  unfold scoD
  generalize rgD rg = G
  generalize rulD rs = H
  simp [run, runI, iexe, a_Score_init, isIni, R.noEr]
theorem range_eq (k : Nat) {p : Int × Int} (h : RgOk p) (row : D) : mir (k + 2) "read_range" [.str (rangeT p), row] = .ok (.d (.tup [.int p.1, .int p.2])) := by
  refine (mirN_run (d := a_read_range) rfl _).trans ((run_0 rfl).trans ?_)
  have sp := range_split h
  have wl : ((strsD (rangeW p)).length : Int) = 3 := rfl
  have w1 : subD (.lst (strsD (rangeW p))) (.int 1) = .ok (.str (itx p.1)) := rfl
  have w2 : subD (.lst (strsD (rangeW p))) (.int 2) = .ok (.str (itx p.2)) := rfl
  have n1 := is_number_eq (defs := defs) rfl k (itx p.1) ((itx_pl (k := 40) (by decide) h.1).mono (by decide))
  rw [numB_itx h.1] at n1
  have n2 := is_number_eq (defs := defs) rfl k (itx p.2) ((itx_pl (k := 40) (by decide) h.2.1).mono (by decide))
  rw [numB_itx h.2.1] at n2
  have i1 := bi_int_itx h.1
  have i2 := bi_int_itx h.2.1
  have le : ¬ p.2 < p.1 := by have := h.2.2; omega
  generalize itx p.1 = a at *
  generalize itx p.2 = b at *
  generalize strsD (rangeW p) = W at *
  generalize rangeT p = T at *
  simp [a_read_range, sp, wl, w1, w2, n1, n2, i1, i2, le]
theorem read_eq (k : Nat) {rg : Rg} {rs : List Rul} (hg : ∀ p ∈ rg, RgOk p) (n1 : 1 ≤ rg.length) (n4 : rg.length ≤ 4) (hr : ∀ r ∈ rs, r.Ok rg.length) (hl : rs.length ≤ 12) (hw : weightV rg rs ≤ 400) : mir (k + 6) "read" [.str (scoreT rg rs)] = .ok (.d (scoD rg rs)) := by
  refine (mirN_run (d := a_read) rfl _).trans ((run_0 rfl).trans ?_)
  have sp := score_split (n := rg.length) (by omega) hg hr (by omega) (by omega)
  have we : mirN defs (k + 5) "weight" [scoD rg rs] = _ := weight_eq (k + 3) hg hr (by omega)
  have ii : mirN defs (k + 5) "Score.__init__" [.ins "Score" [] [], .lst (rgD rg), .lst (rulD rs)] = _ := i_Score (k + 4) rg rs
  have en : enumD (.lst (strsD (rowsT rg rs))) = .ok (numD 0 (strsD (rowsT rg rs))) := rfl
  have body : (exes (mirN defs (k + 5)) a_read.body [.fz (.str (scoreT rg rs)), .no, .no, .no, .no, .no]) = (forL (.tup [3, 4]) (exes (mirN defs (k + 5)) b_read_0) (numD 0 (strsD (rowsT rg rs))) [.fz (.str (scoreT rg rs)), .own [], .own [], .no, .no, .no]).thn (exes (mirN defs (k + 5)) (dropS 3 a_read.body)) := by
    generalize numD 0 (strsD (rowsT rg rs)) = N at *
    generalize strsD (rowsT rg rs) = G at *
    generalize scoreT rg rs = T at *
    simp [a_read, dropS, sp, en]
  have body := congrArg Out.val body
  refine body.trans ?_
  have xl : (numD 0 (strsD (rowsT rg rs))).length = rg.length + rs.length := by rw [numD_len, strsD_len, rowsT_len]
  refine for_rule (R := fun o => (o.thn _).val = R.ok (Val.d (scoD rg rs))) (fun i S => ∃ y z, S = [.fz (.str (scoreT rg rs)), .own (rgD (rg.take i)), .own (rulD (rs.take (i - rg.length))), y, z, .no]) ⟨_, _, by rw [Nat.zero_sub, List.take_zero, List.take_zero]; rfl⟩ ?_ ?_
  · rintro i x S hx ⟨y, z, rfl⟩
    have hi' : i < rg.length + rs.length := by
      have := (List.getElem?_eq_some_iff.mp hx).1
      rwa [xl] at this
    rw [numD_get] at hx
    by_cases c : i < rg.length
    · have e1 : (strsD (rowsT rg rs))[i]? = some (.str (rangeT rg[i])) := by
        unfold strsD
        rw [List.getElem?_map, rowsT_a c]
        rfl
      rw [e1] at hx
      have hx : x = .tup [.int (((0 + i : Nat)) : Int), .str (rangeT rg[i])] := (Option.some.inj hx).symm
      rw [Nat.zero_add] at hx
      subst hx
      refine ⟨_, rfl, ?_⟩
      rw [show i - rg.length = 0 by omega, show i + 1 - rg.length = 0 by omega, List.take_zero]
      have ok := hg _ (List.getElem_mem c)
      have s1 := range_split ok
      have w0 : subD (.lst (strsD (rangeW rg[i]))) (.int 0) = .ok (.str wVoice) := rfl
      have qv := w_is wVoice [118, 111, 105, 99, 101] rfl
      have ne0 : cmpD .ne (.lst (rulD [])) (.lst []) = .ok false := by rw [show rulD [] = [] from rfl, ne_lst rfl rfl, decide_eq_true rfl]; rfl
      have rr : mirN defs (k + 5) "read_range" [.str (rangeT rg[i]), .int (i : Int)] = _ := range_eq (k + 3) ok (.int (i : Int))
      have l4 : ¬ (((rgD (rg.take i)).length : Int) = 4) := by rw [rgD_len, List.length_take]; omega
      have ll : (rgD (rg.take i)).length < 16777216 := by rw [rgD_len, List.length_take]; omega
      have sn := rgD_snoc (rg.take i) rg[i]
      rw [← List.take_succ_eq_append_getElem c] at sn
      generalize rgD (rg.take (i + 1)) = G' at *
      generalize rgD (rg.take i) = G at *
      generalize rulD [] = H at *
      generalize strsD (rangeW rg[i]) = W at *
      generalize rangeT rg[i] = T at *
      generalize scoreT rg rs = T1 at *
      generalize wVoice = wv at *
      simp [b_read_0, s1, w0, qv, ne0, rr, l4, ll, sn]
    · obtain ⟨u, hu⟩ : ∃ u, i = rg.length + u := ⟨i - rg.length, by omega⟩
      subst hu
      have hu : u < rs.length := by omega
      have e1 : (strsD (rowsT rg rs))[rg.length + u]? = some (.str rs[u].text) := by
        unfold strsD
        rw [List.getElem?_map, rowsT_b hu]
        rfl
      rw [e1] at hx
      have hx : x = .tup [.int (((0 + (rg.length + u) : Nat)) : Int), .str rs[u].text] := (Option.some.inj hx).symm
      rw [Nat.zero_add] at hx
      subst hx
      refine ⟨_, rfl, ?_⟩
      rw [show rg.length + u - rg.length = u by omega, show rg.length + u + 1 - rg.length = u + 1 by omega, List.take_of_length_le (show rg.length ≤ rg.length + u by omega), List.take_of_length_le (show rg.length ≤ rg.length + u + 1 by omega)]
      have ok := hr _ (List.getElem_mem hu)
      have s1 := rule_split (show rg.length ≤ 1000 by omega) ok
      have w0 := words_0 rs[u]
      have qv := w_ne rs[u].kind [118, 111, 105, 99, 101] (kind_voice rs[u]) (rs[u].kind_pl.1.mono (by decide))
      have eq0 := eq_rg_nil n1
      have rr : mirN defs (k + 5) "read_rule" [.str rs[u].text, .int (rg.length : Int), .int ((rg.length + u : Nat) : Int)] = _ := read3_eq k rg.length (by omega) rs[u] ok _
      have l12 : ¬ (((rulD (rs.take u)).length : Int) = 12) := by rw [rulD_len, List.length_take]; omega
      have ll : (rulD (rs.take u)).length < 16777216 := by rw [rulD_len, List.length_take]; omega
      have gl : ((rgD rg).length : Int) = (rg.length : Int) := by rw [rgD_len]
      have sn := rulD_snoc (rs.take u) rs[u]
      rw [← List.take_succ_eq_append_getElem hu] at sn
      generalize ((rg.length + u : Nat) : Int) = at_ at *
      generalize (rg.length : Int) = gn at *
      generalize rulD (rs.take (u + 1)) = H' at *
      generalize rulD (rs.take u) = H at *
      generalize rgD rg = G at *
      generalize strsD rs[u].words = W at *
      generalize rs[u].text = T at *
      generalize rs[u].kind = kd at *
      generalize rs[u].d = rd at *
      generalize scoreT rg rs = T1 at *
      simp [b_read_0, s1, w0, qv, eq0, rr, l12, ll, gl, sn]
  · rintro S ⟨y, z, rfl⟩
    rw [xl, List.take_of_length_le (by omega), show rg.length + rs.length - rg.length = rs.length by omega, List.take_length]
    have w4 : ¬ 400 < weightV rg rs := by omega
    generalize weightV rg rs = w at *
    generalize rgD rg = G at *
    generalize rulD rs = H at *
    generalize scoreT rg rs = T1 at *
    have nd : newD "Score" (.d (scoD rg rs)) = .ok (.d (scoD rg rs)) := rfl
    generalize scoD rg rs = sc at *
    simp [a_read, dropS, ii, we, w4, R.noEr, nd]
end Lk23
end
section
set_option maxHeartbeats 1000000
namespace Lk23
open Fv
def nts (L : List (List Int)) (v : Nat) : List Int := L.map fun c => nt c v
theorem nts_len (L : List (List Int)) (v : Nat) : (nts L v).length = L.length := List.length_map _
theorem nts_at {L : List (List Int)} {v i : Nat} (h : i < L.length) : (nts L v)[i]? = some (nt (colAt L i) v) := by
  unfold nts
  rw [List.getElem?_map, List.getElem?_eq_getElem h, colAt_eq h]
  rfl
theorem sub_nts {L : List (List Int)} {v i : Nat} (h : i < L.length) : subD (.lst (intsD (nts L v))) (.int (i : Int)) = .ok (.int (nt (colAt L i) v)) := by
  have z := nts_at (v := v) h
  refine sub_lst ?_
  unfold intsD
  rw [List.getElem?_map, z]
  rfl
theorem nts_take (L : List (List Int)) (v n : Nat) : nts (L.take n) v = (nts L v).take n := by unfold nts; rw [List.map_take]
theorem nts_drop (L : List (List Int)) (v n : Nat) : nts (L.drop n) v = (nts L v).drop n := by unfold nts; rw [List.map_drop]
theorem nts_cnt (v : Nat) (x : Int) : ∀ L : List (List Int), (nts L v).count x = cnt L v x
  | [] => rfl
  | c :: L => by
    have ih := nts_cnt v x L
    unfold nts at ih ⊢
    unfold cnt at ih ⊢
    rw [List.map_cons, List.count_cons, ih, List.filter_cons]
    by_cases g : nt c v = x
    · simp [g]
    · simp [g]
theorem lsI_ints (l : List Int) : lsI (.lst (intsD l)) = .ok l := by
  show optR (intsOf (l.map .int)) R.ok = _
  rw [intsOf_map]
  rfl
/-- the notes of a voice up to a place -/
theorem comp_nts {Γ : Fns} {T : Sg} {tv v n : Nat} {q : Ex} {L : List (List Int)} (hL : Li L n) (hv : v < n) (hq : ∀ c, subD (.tup (intsD c)) (.int (v : Int)) = .ok (.int (nt c v)) → elt Γ q (T.set tv (.fz (.tup (intsD c)))) = .ok (.int (nt c v))) : compL (.one tv) T (evT Γ (.cst (.bl true))) (elt Γ q) (colsT L) [] = .ok (intsD (nts L v)) := by
  have z := compL_map (tg := .one tv) (S := T) (c := evT Γ (.cst (.bl true))) (e := elt Γ q) (fun c : List Int => D.tup (intsD c)) (fun c => D.int (nt c v)) L [] fun c hc => ⟨_, rfl, by simp, hq c (sub_cn (hL.ok c hc) hv)⟩
  have e : (L.map fun c => D.int (nt c v)) = intsD (nts L v) := by unfold intsD nts; rw [List.map_map]; rfl
  rw [e] at z
  exact z
theorem sub_note {L : List (List Int)} {v i m : Nat} (h : i < m) (hm : m ≤ L.length) : subD (.lst (intsD (nts (L.take m) v))) (.int (i : Int)) = .ok (.int (nt (colAt L i) v)) := by
  have z := sub_nts (L := L.take m) (v := v) (i := i) (by rw [List.length_take]; omega)
  rw [col_take h hm] at z
  exact z
theorem sub_nts_last {L : List (List Int)} {v : Nat} (h : 0 < L.length) : subD (.lst (intsD (nts L v))) (.int (-1)) = .ok (.int (nt (colAt L (L.length - 1)) v)) := by
  have z := sub_nts (L := L) (v := v) (i := L.length - 1) (by omega)
  show optR ((ixOf (intsD (nts L v)).length (-1)).bind ((intsD (nts L v))[·]?)) _ = _
  rw [intsD_len, nts_len, ixOf_last h]
  show optR ((intsD (nts L v))[L.length - 1]?) _ = _
  have e : (intsD (nts L v))[L.length - 1]? = some (.int (nt (colAt L (L.length - 1)) v)) := by
    unfold intsD
    rw [List.getElem?_map, nts_at (by omega)]
    rfl
  rw [e]
  rfl
theorem sub_nts_last2 {L : List (List Int)} {v : Nat} (h : 1 < L.length) : subD (.lst (intsD (nts L v))) (.int (-2)) = .ok (.int (nt (colAt L (L.length - 2)) v)) := by
  show optR ((ixOf (intsD (nts L v)).length (-2)).bind ((intsD (nts L v))[·]?)) _ = _
  have e : ixOf L.length (-2) = some (L.length - 2) := by
    unfold ixOf
    rw [if_neg (by decide), if_pos (by omega)]
    congr 1
    omega
  rw [intsD_len, nts_len, e]
  show optR ((intsD (nts L v))[L.length - 2]?) _ = _
  have e : (intsD (nts L v))[L.length - 2]? = some (.int (nt (colAt L (L.length - 2)) v)) := by
    unfold intsD
    rw [List.getElem?_map, nts_at (by omega)]
    rfl
  rw [e]
  rfl
theorem ne_nts (L : List (List Int)) (v : Nat) : cmpD .ne (.lst (intsD (nts L v))) (.lst []) = .ok (decide (L ≠ [])) := by
  rw [ne_lst (a := intsD (nts L v)) (b := []) (clb_ints _) rfl]
  cases L with
  | nil => simp [nts, intsD]
  | cons y r => simp [nts, intsD]
theorem len_pos {L : List (List Int)} (h : L ≠ []) : 0 < L.length := by
  cases L with
  | nil => exact absurd rfl h
  | cons y r => simp
theorem nin3 (w : Tx) (b : Bool) (h : decide (w ∈ [[98, 97, 99, 107], [116, 105, 109, 101, 115], [99, 108, 111, 115, 101]]) = !b) (h2 : (D.str w).cl 0 = true := by decide) : cmpD .nin (.str w) (.tup [.str [98, 97, 99, 107], .str [116, 105, 109, 101, 115], .str [99, 108, 111, 115, 101]]) = .ok b := by
  have e : cmpD .nin (.str w) (.tup [.str [98, 97, 99, 107], .str [116, 105, 109, 101, 115], .str [99, 108, 111, 115, 101]]) = if ((D.str w).cl 0 && ([D.str [98, 97, 99, 107], .str [116, 105, 109, 101, 115], .str [99, 108, 111, 115, 101]].all (D.cl 0))) = true then R.ok (!decide (D.str w ∈ [D.str [98, 97, 99, 107], .str [116, 105, 109, 101, 115], .str [99, 108, 111, 115, 101]])) else .bad := rfl
  have m : decide (D.str w ∈ [D.str [98, 97, 99, 107], .str [116, 105, 109, 101, 115], .str [99, 108, 111, 115, 101]]) = decide (w ∈ [[98, 97, 99, 107], [116, 105, 109, 101, 115], [99, 108, 111, 115, 101]]) := decide_eq_decide.mpr (by simp)
  rw [e, m, h]
  exact (if_pos (by rw [h2]; rfl)).trans (by cases b <;> rfl)
/-- held, as the law says it -/
theorem held_words (L : List (List Int)) (v : Nat) (m : Int) (hm1 : 1 ≤ m) (j : Nat) (hj : j < L.length) (g : ¬ (j : Int) < m) : lb (.held v m) L j = decide (((((nts (L.take (j + 1)) v).drop (j - m.toNat)).take (m.toNat + 1)).count (nt (colAt L j) v) : Int) = m + 1) := by
  have e : lb (.held v m) L j = ((L.drop (j - m.toNat)).take m.toNat).all fun c => decide (nt c v = nt (colAt L j) v) := if_neg g
  rw [e, Bool.eq_iff_iff, decide_eq_true_eq, all_cut L (j - m.toNat) m.toNat (by omega)]
  have ln : (((nts (L.take (j + 1)) v).drop (j - m.toNat)).take (m.toNat + 1)).length = m.toNat + 1 := by
    rw [List.length_take, List.length_drop, nts_len, List.length_take]
    omega
  have at_ : ∀ i, i < m.toNat + 1 → (((nts (L.take (j + 1)) v).drop (j - m.toNat)).take (m.toNat + 1))[i]? = some (nt (colAt L (j - m.toNat + i)) v) := fun i hi => by
    rw [List.getElem?_take, if_pos hi, List.getElem?_drop, nts_at (by rw [List.length_take]; omega), col_take (by omega) hj]
  generalize ((nts (L.take (j + 1)) v).drop (j - m.toNat)).take (m.toNat + 1) = T at *
  have key : T.count (nt (colAt L j) v) = T.length ↔ ∀ b ∈ T, nt (colAt L j) v = b := List.count_eq_length
  constructor
  · intro h
    have : T.count (nt (colAt L j) v) = T.length := key.mpr fun b hb => by
      obtain ⟨i, hi, rfl⟩ := List.mem_iff_getElem.mp hb
      rw [ln] at hi
      have z := at_ i hi
      rw [List.getElem?_eq_getElem (by omega)] at z
      rw [Option.some.inj z]
      by_cases hlast : i = m.toNat
      · rw [show j - m.toNat + i = j from by omega]
      · exact (of_decide_eq_true (h i (by omega))).symm
    rw [this, ln]
    omega
  · intro h i hi
    have h2 : T.count (nt (colAt L j) v) = T.length := by rw [ln]; omega
    have z := at_ i (by omega)
    exact decide_eq_true (key.mp h2 _ (List.mem_of_getElem? z)).symm
theorem oc_span (k n j : Nat) (L : List (List Int)) (a b : Nat) (s : List Int) (hL : Li L n) (hj : j < L.length) (ha : a < n) (hb : b < n) : mir (k + 1) "_law_one_column" [.lst (rowD (Rul.span a b s)), .tup (intsD (colAt L j))] = .ok (.d (.bl (lb (Rul.span a b s) L j))) := by
  refine (mirN_run (d := a_l_one_column) rfl _).trans ((run_0 rfl).trans ?_)
  have c0 := hL.col hj
  have e3 := sub_cn c0 ha
  have e4 := sub_cn c0 hb
  have k0 : subD (.lst (rowD (Rul.span a b s))) (.int 0) = .ok (.str wSpan) := row_0 (Rul.span a b s)
  have n1 : subD (.lst (rowD (Rul.span a b s))) (.int 1) = .ok (.int ((a : Int) + 1)) := sub_row (k := (Rul.span a b s).kind) (is := (Rul.span a b s).nums) (i := 0) rfl
  have n2 : subD (.lst (rowD (Rul.span a b s))) (.int 2) = .ok (.int ((b : Int) + 1)) := sub_row (k := (Rul.span a b s).kind) (is := (Rul.span a b s).nums) (i := 1) rfl
  have sl : slcD (.lst (rowD (Rul.span a b s))) (some 3) none = .ok (.fr (intsD s)) := slc_row (k := (Rul.span a b s).kind) (is := (Rul.span a b s).nums) (n := 2)
  have q_span := w_is wSpan [115, 112, 97, 110] rfl
  have hm : lb (Rul.span a b s) L j = !decide (nt (colAt L j) b - nt (colAt L j) a ∈ s) := rfl
  rw [hm]
  generalize nt (colAt L j) a = x at *
  generalize nt (colAt L j) b = y at *
  generalize intsD (colAt L j) = cc at *
  generalize wSpan = ww at *
  generalize rowD (Rul.span a b s) = W at *
  simp [a_l_one_column, k0, n1, n2, sl, q_span, e3, e4]
theorem oc_clock (k n j : Nat) (L : List (List Int)) (a b : Nat) (m : Int) (s : List Int) (hL : Li L n) (hj : j < L.length) (ha : a < n) (hb : b < n) (m0 : 0 < m) : mir (k + 1) "_law_one_column" [.lst (rowD (Rul.clock a b m s)), .tup (intsD (colAt L j))] = .ok (.d (.bl (lb (Rul.clock a b m s) L j))) := by
  refine (mirN_run (d := a_l_one_column) rfl _).trans ((run_0 rfl).trans ?_)
  have c0 := hL.col hj
  have e3 := sub_cn c0 ha
  have e4 := sub_cn c0 hb
  have k0 : subD (.lst (rowD (Rul.clock a b m s))) (.int 0) = .ok (.str wClock) := row_0 (Rul.clock a b m s)
  have n1 : subD (.lst (rowD (Rul.clock a b m s))) (.int 1) = .ok (.int ((a : Int) + 1)) := sub_row (k := (Rul.clock a b m s).kind) (is := (Rul.clock a b m s).nums) (i := 0) rfl
  have n2 : subD (.lst (rowD (Rul.clock a b m s))) (.int 2) = .ok (.int ((b : Int) + 1)) := sub_row (k := (Rul.clock a b m s).kind) (is := (Rul.clock a b m s).nums) (i := 1) rfl
  have n3 : subD (.lst (rowD (Rul.clock a b m s))) (.int 3) = .ok (.int (m)) := sub_row (k := (Rul.clock a b m s).kind) (is := (Rul.clock a b m s).nums) (i := 2) rfl
  have sl : slcD (.lst (rowD (Rul.clock a b m s))) (some 4) none = .ok (.fr (intsD s)) := slc_row (k := (Rul.clock a b m s).kind) (is := (Rul.clock a b m s).nums) (n := 3)
  have q_span := w_ne wClock [115, 112, 97, 110] rfl
  have hm : lb (Rul.clock a b m s) L j = !decide ((nt (colAt L j) b - nt (colAt L j) a) % m ∈ s) := rfl
  rw [hm]
  generalize nt (colAt L j) a = x at *
  generalize nt (colAt L j) b = y at *
  generalize intsD (colAt L j) = cc at *
  generalize wClock = ww at *
  generalize rowD (Rul.clock a b m s) = W at *
  simp [a_l_one_column, k0, n1, n2, n3, sl, q_span, e3, e4, m0]
theorem tc_move (k n j : Nat) (L : List (List Int)) (v : Nat) (s : List Int) (hL : Li L n) (hj : j < L.length) (h0 : 0 < j) (hv : v < n) : mir (k + 1) "_law_two_columns" [.lst (rowD (Rul.move v s)), .lst (colsT L), .int (j : Int)] = .ok (.d (.bl (lb (Rul.move v s) L j))) := by
  refine (mirN_run (d := a_l_two_columns) rfl _).trans ((run_0 rfl).trans ?_)
  have c0 := hL.col hj
  have c1 := hL.col (i := j - 1) (by omega)
  have e1 := sub_col hj
  have e2 := sub_col (l := L) (i := j - 1) (by omega)
  rw [show ((j - 1 : Nat) : Int) = (j : Int) - 1 from by omega] at e2
  have e3 := sub_cn c0 hv
  have e4 := sub_cn c1 hv
  have k0 : subD (.lst (rowD (Rul.move v s))) (.int 0) = .ok (.str wMove) := row_0 (Rul.move v s)
  have n1 : subD (.lst (rowD (Rul.move v s))) (.int 1) = .ok (.int ((v : Int) + 1)) := sub_row (k := (Rul.move v s).kind) (is := (Rul.move v s).nums) (i := 0) rfl
  have sl : slcD (.lst (rowD (Rul.move v s))) (some 2) none = .ok (.fr (intsD s)) := slc_row (k := (Rul.move v s).kind) (is := (Rul.move v s).nums) (n := 1)
  have q_move := w_is wMove [109, 111, 118, 101] rfl
  have hm : lb (Rul.move v s) L j = !decide (nt (colAt L j) v - nt (colAt L (j - 1)) v ∈ s) := by
    show (decide (0 < j) && _) = _
    rw [decide_eq_true h0, Bool.true_and]
    rfl
  rw [hm]
  generalize ((j : Nat) : Int) = jj at *
  generalize nt (colAt L j) v = x at *
  generalize nt (colAt L (j - 1)) v = y at *
  generalize colsT L = X at *
  generalize wMove = ww at *
  generalize rowD (Rul.move v s) = W at *
  simp [a_l_two_columns, k0, n1, sl, q_move, e1, e2, e3, e4]
theorem tc_alike (k n j : Nat) (L : List (List Int)) (a b : Nat) (s : List Int) (hL : Li L n) (hj : j < L.length) (h0 : 0 < j) (ha : a < n) (hb : b < n) : mir (k + 1) "_law_two_columns" [.lst (rowD (Rul.alike a b s)), .lst (colsT L), .int (j : Int)] = .ok (.d (.bl (lb (Rul.alike a b s) L j))) := by
  refine (mirN_run (d := a_l_two_columns) rfl _).trans ((run_0 rfl).trans ?_)
  have c0 := hL.col hj
  have c1 := hL.col (i := j - 1) (by omega)
  have e1 := sub_col hj
  have e2 := sub_col (l := L) (i := j - 1) (by omega)
  rw [show ((j - 1 : Nat) : Int) = (j : Int) - 1 from by omega] at e2
  have e3 := sub_cn c0 ha
  have e4 := sub_cn c1 ha
  have e5 := sub_cn c0 hb
  have e6 := sub_cn c1 hb
  have k0 : subD (.lst (rowD (Rul.alike a b s))) (.int 0) = .ok (.str wAlike) := row_0 (Rul.alike a b s)
  have n1 : subD (.lst (rowD (Rul.alike a b s))) (.int 1) = .ok (.int ((a : Int) + 1)) := sub_row (k := (Rul.alike a b s).kind) (is := (Rul.alike a b s).nums) (i := 0) rfl
  have n2 : subD (.lst (rowD (Rul.alike a b s))) (.int 2) = .ok (.int ((b : Int) + 1)) := sub_row (k := (Rul.alike a b s).kind) (is := (Rul.alike a b s).nums) (i := 1) rfl
  have sl : slcD (.lst (rowD (Rul.alike a b s))) (some 3) none = .ok (.fr (intsD s)) := slc_row (k := (Rul.alike a b s).kind) (is := (Rul.alike a b s).nums) (n := 2)
  have q_move := w_ne wAlike [109, 111, 118, 101] rfl
  have hm : lb (Rul.alike a b s) L j = (decide (nt (colAt L j) a - nt (colAt L (j - 1)) a ≠ 0) && (decide (nt (colAt L j) b - nt (colAt L j) a = nt (colAt L (j - 1)) b - nt (colAt L (j - 1)) a) && decide (nt (colAt L j) b - nt (colAt L j) a ∈ s))) := by
    show (decide (0 < j) && _) = _
    rw [decide_eq_true h0, Bool.true_and]
    rfl
  rw [hm]
  generalize ((j : Nat) : Int) = jj at *
  generalize nt (colAt L j) a = xa at *
  generalize nt (colAt L (j - 1)) a = ya at *
  generalize nt (colAt L j) b = xb at *
  generalize nt (colAt L (j - 1)) b = yb at *
  generalize colsT L = X at *
  generalize wAlike = ww at *
  generalize rowD (Rul.alike a b s) = W at *
  obtain ⟨m, hm⟩ : ∃ m, xa - ya = m := ⟨_, rfl⟩
  obtain ⟨p, hp⟩ : ∃ m, xb - xa = m := ⟨_, rfl⟩
  obtain ⟨w, hw⟩ : ∃ m, yb - ya = m := ⟨_, rfl⟩
  rw [hm, hp, hw]
  by_cases g1 : m = 0
  · simp [a_l_two_columns, k0, n1, n2, sl, q_move, e1, e2, e3, e4, e5, e6, hm, hp, hw, g1]
  · by_cases g2 : p = w
    · simp [a_l_two_columns, k0, n1, n2, sl, q_move, e1, e2, e3, e4, e5, e6, hm, hp, hw, g1, g2]
    · simp [a_l_two_columns, k0, n1, n2, sl, q_move, e1, e2, e3, e4, e5, e6, hm, hp, hw, g1, g2]
theorem ov_close (k n j : Nat) (L : List (List Int)) (v : Nat) (s : List Int) (hL : Li L n) (hj : j < L.length) : mir (k + 1) "_law_one_voice" [.lst (rowD (Rul.close v s)), .lst (intsD (nts (L.take (j + 1)) v)), .int (j : Int)] = .ok (.d (.bl (lb (Rul.close v s) L j))) := by
  refine (mirN_run (d := a_l_one_voice) rfl _).trans ((run_0 rfl).trans ?_)
  have k0 : subD (.lst (rowD (Rul.close v s))) (.int 0) = .ok (.str wClose) := row_0 (Rul.close v s)
  have n1 : subD (.lst (rowD (Rul.close v s))) (.int 1) = .ok (.int ((v : Int) + 1)) := sub_row (k := (Rul.close v s).kind) (is := (Rul.close v s).nums) (i := 0) rfl
  have sl : slcD (.lst (rowD (Rul.close v s))) (some 2) none = .ok (.fr (intsD s)) := slc_row (k := (Rul.close v s).kind) (is := (Rul.close v s).nums) (n := 1)
  have q_back := w_ne wClose [98, 97, 99, 107] rfl
  have q_held := w_ne wClose [104, 101, 108, 100] rfl
  have q_times := w_ne wClose [116, 105, 109, 101, 115] rfl
  have q_begin := w_ne wClose [98, 101, 103, 105, 110] rfl
  have hm : lb (Rul.close v s) L j = false := rfl
  rw [hm]
  generalize ((j : Nat) : Int) = jj at *
  generalize intsD (nts (L.take (j + 1)) v) = X at *
  generalize wClose = ww at *
  generalize rowD (Rul.close v s) = W at *
  simp [a_l_one_voice, k0, n1, sl, q_back, q_held, q_times, q_begin]
theorem ov_begin (k n j : Nat) (L : List (List Int)) (v : Nat) (s : List Int) (hL : Li L n) (hj : j < L.length) : mir (k + 1) "_law_one_voice" [.lst (rowD (Rul.begin v s)), .lst (intsD (nts (L.take (j + 1)) v)), .int (j : Int)] = .ok (.d (.bl (lb (Rul.begin v s) L j))) := by
  refine (mirN_run (d := a_l_one_voice) rfl _).trans ((run_0 rfl).trans ?_)
  have xj := sub_note (v := v) (Nat.lt_succ_self j) (show j + 1 ≤ L.length from hj)
  have k0 : subD (.lst (rowD (Rul.begin v s))) (.int 0) = .ok (.str wBegin) := row_0 (Rul.begin v s)
  have n1 : subD (.lst (rowD (Rul.begin v s))) (.int 1) = .ok (.int ((v : Int) + 1)) := sub_row (k := (Rul.begin v s).kind) (is := (Rul.begin v s).nums) (i := 0) rfl
  have sl : slcD (.lst (rowD (Rul.begin v s))) (some 2) none = .ok (.fr (intsD s)) := slc_row (k := (Rul.begin v s).kind) (is := (Rul.begin v s).nums) (n := 1)
  have q_back := w_ne wBegin [98, 97, 99, 107] rfl
  have q_held := w_ne wBegin [104, 101, 108, 100] rfl
  have q_times := w_ne wBegin [116, 105, 109, 101, 115] rfl
  have q_begin := w_is wBegin [98, 101, 103, 105, 110] rfl
  have hm : lb (Rul.begin v s) L j = (decide (j = 0) && !decide (nt (colAt L j) v ∈ s)) := rfl
  rw [hm]
  by_cases g : j = 0
  · subst g
    rw [decide_eq_true rfl, Bool.true_and]
    have xj : subD (.lst (intsD (nts (L.take (0 + 1)) v))) (.int 0) = _ := xj
    generalize nt (colAt L 0) v = x at *
    generalize intsD (nts (L.take (0 + 1)) v) = X at *
    generalize wBegin = ww at *
    generalize rowD (Rul.begin v s) = W at *
    simp [a_l_one_voice, k0, n1, sl, q_back, q_held, q_times, q_begin, xj]
  · rw [decide_eq_false g, Bool.false_and]
    have gj : ¬ (j : Int) = 0 := by omega
    generalize ((j : Nat) : Int) = jj at *
    generalize intsD (nts (L.take (j + 1)) v) = X at *
    generalize wBegin = ww at *
    generalize rowD (Rul.begin v s) = W at *
    simp [a_l_one_voice, k0, n1, sl, q_back, q_held, q_times, q_begin, gj]
theorem ov_times (k n j : Nat) (L : List (List Int)) (v : Nat) (x lo hi : Int) (hL : Li L n) (hj : j < L.length) : mir (k + 1) "_law_one_voice" [.lst (rowD (Rul.times v x lo hi)), .lst (intsD (nts (L.take (j + 1)) v)), .int (j : Int)] = .ok (.d (.bl (lb (Rul.times v x lo hi) L j))) := by
  refine (mirN_run (d := a_l_one_voice) rfl _).trans ((run_0 rfl).trans ?_)
  have xj := sub_note (v := v) (Nat.lt_succ_self j) (show j + 1 ≤ L.length from hj)
  have k0 : subD (.lst (rowD (Rul.times v x lo hi))) (.int 0) = .ok (.str wTimes) := row_0 (Rul.times v x lo hi)
  have n1 : subD (.lst (rowD (Rul.times v x lo hi))) (.int 1) = .ok (.int ((v : Int) + 1)) := sub_row (k := (Rul.times v x lo hi).kind) (is := (Rul.times v x lo hi).nums) (i := 0) rfl
  have n2 : subD (.lst (rowD (Rul.times v x lo hi))) (.int 2) = .ok (.int (x)) := sub_row (k := (Rul.times v x lo hi).kind) (is := (Rul.times v x lo hi).nums) (i := 1) rfl
  have n3 : subD (.lst (rowD (Rul.times v x lo hi))) (.int 3) = .ok (.int (lo)) := sub_row (k := (Rul.times v x lo hi).kind) (is := (Rul.times v x lo hi).nums) (i := 2) rfl
  have n4 : subD (.lst (rowD (Rul.times v x lo hi))) (.int 4) = .ok (.int (hi)) := sub_row (k := (Rul.times v x lo hi).kind) (is := (Rul.times v x lo hi).nums) (i := 3) rfl
  have q_back := w_ne wTimes [98, 97, 99, 107] rfl
  have q_held := w_ne wTimes [104, 101, 108, 100] rfl
  have q_times := w_is wTimes [116, 105, 109, 101, 115] rfl
  have q_begin := w_ne wTimes [98, 101, 103, 105, 110] rfl
  have hm : lb (Rul.times v x lo hi) L j = (decide (nt (colAt L j) v = x) && decide (hi ≤ (cnt (L.take j) v (nt (colAt L j) v) : Int))) := rfl
  rw [hm]
  have st : slcD (.lst (intsD (nts (L.take (j + 1)) v))) none (some ((j : Int) + 1)) = .ok (.fr (intsD (nts (L.take (j + 1)) v))) := by
    have z := slc_lst_to (s := intsD (nts (L.take (j + 1)) v)) (n := j + 1)
    rw [intsD_take, ← nts_take, List.take_take, Nat.min_self] at z
    exact z
  have ls := lsI_ints (nts (L.take (j + 1)) v)
  have cc : cntD (nts (L.take (j + 1)) v) x = .ok (.d (.int (((cnt (L.take j) v x + if nt (colAt L j) v = x then 1 else 0 : Nat)) : Int))) := by
    show R.ok (Val.d (.int _)) = _
    rw [nts_cnt, cnt_take L v x j hj]
  by_cases g : nt (colAt L j) v = x
  · rw [decide_eq_true g, Bool.true_and, g]
    rw [if_pos g] at cc
    rw [g] at xj
    generalize cnt (L.take j) v x = cn at *
    have e : decide (hi ≤ (cn : Int)) = decide (hi < ((cn + 1 : Nat) : Int)) := decide_eq_decide.mpr (by omega)
    rw [e]
    generalize ((cn + 1 : Nat) : Int) = cm at *
    generalize ((j : Nat) : Int) = jj at *
    generalize nts (L.take (j + 1)) v = Y at *
    generalize wTimes = ww at *
    generalize rowD (Rul.times v x lo hi) = W at *
    simp [a_l_one_voice, k0, n1, n2, n3, n4, q_back, q_held, q_times, q_begin, xj, st, ls, cc]
  · rw [decide_eq_false g, Bool.false_and]
    generalize nt (colAt L j) v = y at *
    generalize ((j : Nat) : Int) = jj at *
    generalize nts (L.take (j + 1)) v = Y at *
    generalize wTimes = ww at *
    generalize rowD (Rul.times v x lo hi) = W at *
    simp [a_l_one_voice, k0, n1, n2, n3, n4, q_back, q_held, q_times, q_begin, xj, g]
theorem ov_held (k n j : Nat) (L : List (List Int)) (v : Nat) (m : Int) (hL : Li L n) (hj : j < L.length) (hm1 : 1 ≤ m) : mir (k + 1) "_law_one_voice" [.lst (rowD (Rul.held v m)), .lst (intsD (nts (L.take (j + 1)) v)), .int (j : Int)] = .ok (.d (.bl (lb (Rul.held v m) L j))) := by
  refine (mirN_run (d := a_l_one_voice) rfl _).trans ((run_0 rfl).trans ?_)
  have xj := sub_note (v := v) (Nat.lt_succ_self j) (show j + 1 ≤ L.length from hj)
  have k0 : subD (.lst (rowD (Rul.held v m))) (.int 0) = .ok (.str wHeld) := row_0 (Rul.held v m)
  have n1 : subD (.lst (rowD (Rul.held v m))) (.int 1) = .ok (.int ((v : Int) + 1)) := sub_row (k := (Rul.held v m).kind) (is := (Rul.held v m).nums) (i := 0) rfl
  have n2 : subD (.lst (rowD (Rul.held v m))) (.int 2) = .ok (.int (m)) := sub_row (k := (Rul.held v m).kind) (is := (Rul.held v m).nums) (i := 1) rfl
  have q_back := w_ne wHeld [98, 97, 99, 107] rfl
  have q_held := w_is wHeld [104, 101, 108, 100] rfl
  have q_times := w_ne wHeld [116, 105, 109, 101, 115] rfl
  have q_begin := w_ne wHeld [98, 101, 103, 105, 110] rfl
  by_cases g : (j : Int) < m
  · have hm : lb (Rul.held v m) L j = false := if_pos g
    rw [hm]
    have g2 : ¬ m ≤ (j : Int) := by omega
    generalize nt (colAt L j) v = y at *
    generalize ((j : Nat) : Int) = jj at *
    generalize nts (L.take (j + 1)) v = Y at *
    generalize wHeld = ww at *
    generalize rowD (Rul.held v m) = W at *
    simp [a_l_one_voice, k0, n1, n2, q_back, q_held, q_times, q_begin, xj, g, g2]
  · have hw := held_words L v m hm1 j hj g
    have g2 : m ≤ (j : Int) := by omega
    have st : slcD (.lst (intsD (nts (L.take (j + 1)) v))) (some ((j : Int) - m)) (some ((j : Int) + 1)) = .ok (.fr (intsD (((nts (L.take (j + 1)) v).drop (j - m.toNat)).take (m.toNat + 1)))) := by
      show R.ok (Val.fr (cut _ _ _)) = _
      have e1 : (j : Int) - m = ((j - m.toNat : Nat) : Int) := by omega
      have e2 : (j : Int) + 1 = ((j + 1 : Nat) : Int) := rfl
      rw [e1, e2, cut_mid, show j + 1 - (j - m.toNat) = m.toNat + 1 from by omega, intsD_drop, intsD_take]
    have ls := lsI_ints (((nts (L.take (j + 1)) v).drop (j - m.toNat)).take (m.toNat + 1))
    have cc : cntD (((nts (L.take (j + 1)) v).drop (j - m.toNat)).take (m.toNat + 1)) (nt (colAt L j) v) = .ok (.d (.int (((((nts (L.take (j + 1)) v).drop (j - m.toNat)).take (m.toNat + 1)).count (nt (colAt L j) v) : Nat) : Int))) := rfl
    rw [hw]
    generalize ((nts (L.take (j + 1)) v).drop (j - m.toNat)).take (m.toNat + 1) = T at *
    generalize ((T.count (nt (colAt L j) v) : Nat) : Int) = cn at *
    generalize nt (colAt L j) v = y at *
    generalize ((j : Nat) : Int) = jj at *
    generalize nts (L.take (j + 1)) v = Y at *
    generalize wHeld = ww at *
    generalize rowD (Rul.held v m) = W at *
    simp [a_l_one_voice, k0, n1, n2, q_back, q_held, q_times, q_begin, xj, g, g2, st, ls, cc]
theorem ov_back (k n j : Nat) (L : List (List Int)) (v : Nat) (d : Int) (hL : Li L n) (hj : j < L.length) : mir (k + 1) "_law_one_voice" [.lst (rowD (Rul.back v d)), .lst (intsD (nts (L.take (j + 1)) v)), .int (j : Int)] = .ok (.d (.bl (lb (Rul.back v d) L j))) := by
  refine (mirN_run (d := a_l_one_voice) rfl _).trans ((run_0 rfl).trans ?_)
  have xj := sub_note (v := v) (Nat.lt_succ_self j) (show j + 1 ≤ L.length from hj)
  have k0 : subD (.lst (rowD (Rul.back v d))) (.int 0) = .ok (.str wBack) := row_0 (Rul.back v d)
  have n1 : subD (.lst (rowD (Rul.back v d))) (.int 1) = .ok (.int ((v : Int) + 1)) := sub_row (k := (Rul.back v d).kind) (is := (Rul.back v d).nums) (i := 0) rfl
  have n2 : subD (.lst (rowD (Rul.back v d))) (.int 2) = .ok (.int (d)) := sub_row (k := (Rul.back v d).kind) (is := (Rul.back v d).nums) (i := 1) rfl
  have q_back := w_is wBack [98, 97, 99, 107] rfl
  have q_held := w_ne wBack [104, 101, 108, 100] rfl
  have q_times := w_ne wBack [116, 105, 109, 101, 115] rfl
  have q_begin := w_ne wBack [98, 101, 103, 105, 110] rfl
  by_cases h1 : j ≤ 1
  · have hm : lb (Rul.back v d) L j = false := by
      show (decide (0 < j) && (if j = 1 then false else _)) = _
      by_cases h0 : j = 0
      · rw [decide_eq_false (by omega), Bool.false_and]
      · rw [if_pos (by omega), Bool.and_false]
    rw [hm]
    have jn : ¬ (1 : Int) < (j : Int) := by omega
    generalize nt (colAt L j) v = y at *
    generalize ((j : Nat) : Int) = jj at *
    generalize nts (L.take (j + 1)) v = Y at *
    generalize wBack = ww at *
    generalize rowD (Rul.back v d) = W at *
    simp [a_l_one_voice, k0, n1, n2, q_back, q_held, q_times, q_begin, xj, jn]
  · have x1 := sub_note (v := v) (i := j - 1) (m := j + 1) (by omega) (show j + 1 ≤ L.length from hj)
    have x2 := sub_note (v := v) (i := j - 2) (m := j + 1) (by omega) (show j + 1 ≤ L.length from hj)
    rw [show ((j - 1 : Nat) : Int) = (j : Int) - 1 from by omega] at x1
    rw [show ((j - 2 : Nat) : Int) = (j : Int) - 2 from by omega] at x2
    have hm : lb (Rul.back v d) L j = ((decide (d < nt (colAt L (j - 1)) v - nt (colAt L (j - 2)) v) && decide (0 ≤ nt (colAt L j) v - nt (colAt L (j - 1)) v)) || (decide (nt (colAt L (j - 1)) v - nt (colAt L (j - 2)) v < 0 - d) && decide (nt (colAt L j) v - nt (colAt L (j - 1)) v ≤ 0))) := by
      show (decide (0 < j) && (if j = 1 then false else _)) = _
      rw [if_neg (by omega), decide_eq_true (show 0 < j by omega), Bool.true_and]
      rfl
    rw [hm]
    have jn : (1 : Int) < (j : Int) := by omega
    generalize ((j : Nat) : Int) = jj at *
    generalize nt (colAt L j) v = x at *
    generalize nt (colAt L (j - 1)) v = y at *
    generalize nt (colAt L (j - 2)) v = z at *
    generalize nts (L.take (j + 1)) v = Y at *
    generalize wBack = ww at *
    generalize rowD (Rul.back v d) = W at *
    obtain ⟨m, hm⟩ : ∃ m, x - y = m := ⟨_, rfl⟩
    obtain ⟨p, hp⟩ : ∃ m, y - z = m := ⟨_, rfl⟩
    rw [hm, hp]
    by_cases g1 : d < p
    · by_cases g2 : 0 ≤ m
      · simp [a_l_one_voice, k0, n1, n2, q_back, q_held, q_times, q_begin, xj, x1, x2, jn, hm, hp, g1, g2]
      · simp [a_l_one_voice, k0, n1, n2, q_back, q_held, q_times, q_begin, xj, x1, x2, jn, hm, hp, g1, g2]
        by_cases g3 : p < -d <;> simp [g3]
    · by_cases g3 : p < -d
      · simp [a_l_one_voice, k0, n1, n2, q_back, q_held, q_times, q_begin, xj, x1, x2, jn, hm, hp, g1, g3]
      · simp [a_l_one_voice, k0, n1, n2, q_back, q_held, q_times, q_begin, xj, x1, x2, jn, hm, hp, g1, g3]
theorem br_span (k n j : Nat) (L : List (List Int)) (a b : Nat) (s : List Int) (hL : Li L n) (hj : j < L.length) (ha : a < n) (hb : b < n) : mir (k + 2) "_law_broken" [.lst (rowD (Rul.span a b s)), .lst (colsT L), .int (j : Int)] = .ok (.d (.bl (lb (Rul.span a b s) L j))) := by
  refine (mirN_run (d := a_l_broken) rfl _).trans ((run_0 rfl).trans ?_)
  have e1 := sub_col hj
  have k0 : subD (.lst (rowD (Rul.span a b s))) (.int 0) = .ok (.str wSpan) := row_0 (Rul.span a b s)
  have n1 : subD (.lst (rowD (Rul.span a b s))) (.int 1) = .ok (.int ((a : Int) + 1)) := sub_row (k := (Rul.span a b s).kind) (is := (Rul.span a b s).nums) (i := 0) rfl
  have n2 : subD (.lst (rowD (Rul.span a b s))) (.int 2) = .ok (.int ((b : Int) + 1)) := sub_row (k := (Rul.span a b s).kind) (is := (Rul.span a b s).nums) (i := 1) rfl
  have sl : slcD (.lst (rowD (Rul.span a b s))) (some 3) none = .ok (.fr (intsD s)) := slc_row (k := (Rul.span a b s).kind) (is := (Rul.span a b s).nums) (n := 2)
  have q_span := w_is wSpan [115, 112, 97, 110] rfl
  have q_clock := w_ne wSpan [99, 108, 111, 99, 107] rfl
  have q_every := w_ne wSpan [101, 118, 101, 114, 121] rfl
  have q_move := w_ne wSpan [109, 111, 118, 101] rfl
  have q_alike := w_ne wSpan [97, 108, 105, 107, 101] rfl
  have oc := oc_span k n j L a b s hL hj ha hb
  generalize lb (Rul.span a b s) L j = bb at *
  generalize ((j : Nat) : Int) = jj at *
  generalize intsD (colAt L j) = cc at *
  generalize colsT L = X at *
  generalize wSpan = ww at *
  generalize rowD (Rul.span a b s) = W at *
  simp [a_l_broken, k0, n1, n2, sl, q_span, q_clock, q_every, q_move, q_alike, e1, oc]
theorem br_clock (k n j : Nat) (L : List (List Int)) (a b : Nat) (m : Int) (s : List Int) (hL : Li L n) (hj : j < L.length) (ha : a < n) (hb : b < n) (m0 : 0 < m) : mir (k + 2) "_law_broken" [.lst (rowD (Rul.clock a b m s)), .lst (colsT L), .int (j : Int)] = .ok (.d (.bl (lb (Rul.clock a b m s) L j))) := by
  refine (mirN_run (d := a_l_broken) rfl _).trans ((run_0 rfl).trans ?_)
  have e1 := sub_col hj
  have k0 : subD (.lst (rowD (Rul.clock a b m s))) (.int 0) = .ok (.str wClock) := row_0 (Rul.clock a b m s)
  have n1 : subD (.lst (rowD (Rul.clock a b m s))) (.int 1) = .ok (.int ((a : Int) + 1)) := sub_row (k := (Rul.clock a b m s).kind) (is := (Rul.clock a b m s).nums) (i := 0) rfl
  have n2 : subD (.lst (rowD (Rul.clock a b m s))) (.int 2) = .ok (.int ((b : Int) + 1)) := sub_row (k := (Rul.clock a b m s).kind) (is := (Rul.clock a b m s).nums) (i := 1) rfl
  have n3 : subD (.lst (rowD (Rul.clock a b m s))) (.int 3) = .ok (.int (m)) := sub_row (k := (Rul.clock a b m s).kind) (is := (Rul.clock a b m s).nums) (i := 2) rfl
  have sl : slcD (.lst (rowD (Rul.clock a b m s))) (some 4) none = .ok (.fr (intsD s)) := slc_row (k := (Rul.clock a b m s).kind) (is := (Rul.clock a b m s).nums) (n := 3)
  have q_span := w_ne wClock [115, 112, 97, 110] rfl
  have q_clock := w_is wClock [99, 108, 111, 99, 107] rfl
  have q_every := w_ne wClock [101, 118, 101, 114, 121] rfl
  have q_move := w_ne wClock [109, 111, 118, 101] rfl
  have q_alike := w_ne wClock [97, 108, 105, 107, 101] rfl
  have oc := oc_clock k n j L a b m s hL hj ha hb m0
  generalize lb (Rul.clock a b m s) L j = bb at *
  generalize ((j : Nat) : Int) = jj at *
  generalize intsD (colAt L j) = cc at *
  generalize colsT L = X at *
  generalize wClock = ww at *
  generalize rowD (Rul.clock a b m s) = W at *
  simp [a_l_broken, k0, n1, n2, n3, sl, q_span, q_clock, q_every, q_move, q_alike, e1, oc]
theorem br_move (k n j : Nat) (L : List (List Int)) (v : Nat) (s : List Int) (hL : Li L n) (hj : j < L.length) (hv : v < n) : mir (k + 2) "_law_broken" [.lst (rowD (Rul.move v s)), .lst (colsT L), .int (j : Int)] = .ok (.d (.bl (lb (Rul.move v s) L j))) := by
  refine (mirN_run (d := a_l_broken) rfl _).trans ((run_0 rfl).trans ?_)
  have k0 : subD (.lst (rowD (Rul.move v s))) (.int 0) = .ok (.str wMove) := row_0 (Rul.move v s)
  have n1 : subD (.lst (rowD (Rul.move v s))) (.int 1) = .ok (.int ((v : Int) + 1)) := sub_row (k := (Rul.move v s).kind) (is := (Rul.move v s).nums) (i := 0) rfl
  have sl : slcD (.lst (rowD (Rul.move v s))) (some 2) none = .ok (.fr (intsD s)) := slc_row (k := (Rul.move v s).kind) (is := (Rul.move v s).nums) (n := 1)
  have q_span := w_ne wMove [115, 112, 97, 110] rfl
  have q_clock := w_ne wMove [99, 108, 111, 99, 107] rfl
  have q_every := w_ne wMove [101, 118, 101, 114, 121] rfl
  have q_move := w_is wMove [109, 111, 118, 101] rfl
  have q_alike := w_ne wMove [97, 108, 105, 107, 101] rfl
  by_cases h0 : 0 < j
  · have tc := tc_move k n j L v s hL hj h0 hv
    have jp : (0 : Int) < (j : Int) := by omega
    generalize lb (Rul.move v s) L j = bb at *
    generalize ((j : Nat) : Int) = jj at *
    generalize colsT L = X at *
    generalize wMove = ww at *
    generalize rowD (Rul.move v s) = W at *
    simp [a_l_broken, k0, n1, sl, q_span, q_clock, q_every, q_move, q_alike, tc, jp]
  · have hm : lb (Rul.move v s) L j = false := by
      show (decide (0 < j) && _) = _
      rw [decide_eq_false h0, Bool.false_and]
    have jp : ¬ (0 : Int) < (j : Int) := by omega
    rw [hm]
    generalize ((j : Nat) : Int) = jj at *
    generalize colsT L = X at *
    generalize wMove = ww at *
    generalize rowD (Rul.move v s) = W at *
    simp [a_l_broken, k0, n1, sl, q_span, q_clock, q_every, q_move, q_alike, jp]
theorem br_alike (k n j : Nat) (L : List (List Int)) (a b : Nat) (s : List Int) (hL : Li L n) (hj : j < L.length) (ha : a < n) (hb : b < n) : mir (k + 2) "_law_broken" [.lst (rowD (Rul.alike a b s)), .lst (colsT L), .int (j : Int)] = .ok (.d (.bl (lb (Rul.alike a b s) L j))) := by
  refine (mirN_run (d := a_l_broken) rfl _).trans ((run_0 rfl).trans ?_)
  have k0 : subD (.lst (rowD (Rul.alike a b s))) (.int 0) = .ok (.str wAlike) := row_0 (Rul.alike a b s)
  have n1 : subD (.lst (rowD (Rul.alike a b s))) (.int 1) = .ok (.int ((a : Int) + 1)) := sub_row (k := (Rul.alike a b s).kind) (is := (Rul.alike a b s).nums) (i := 0) rfl
  have n2 : subD (.lst (rowD (Rul.alike a b s))) (.int 2) = .ok (.int ((b : Int) + 1)) := sub_row (k := (Rul.alike a b s).kind) (is := (Rul.alike a b s).nums) (i := 1) rfl
  have sl : slcD (.lst (rowD (Rul.alike a b s))) (some 3) none = .ok (.fr (intsD s)) := slc_row (k := (Rul.alike a b s).kind) (is := (Rul.alike a b s).nums) (n := 2)
  have q_span := w_ne wAlike [115, 112, 97, 110] rfl
  have q_clock := w_ne wAlike [99, 108, 111, 99, 107] rfl
  have q_every := w_ne wAlike [101, 118, 101, 114, 121] rfl
  have q_move := w_ne wAlike [109, 111, 118, 101] rfl
  have q_alike := w_is wAlike [97, 108, 105, 107, 101] rfl
  by_cases h0 : 0 < j
  · have tc := tc_alike k n j L a b s hL hj h0 ha hb
    have jp : (0 : Int) < (j : Int) := by omega
    generalize lb (Rul.alike a b s) L j = bb at *
    generalize ((j : Nat) : Int) = jj at *
    generalize colsT L = X at *
    generalize wAlike = ww at *
    generalize rowD (Rul.alike a b s) = W at *
    simp [a_l_broken, k0, n1, n2, sl, q_span, q_clock, q_every, q_move, q_alike, tc, jp]
  · have hm : lb (Rul.alike a b s) L j = false := by
      show (decide (0 < j) && _) = _
      rw [decide_eq_false h0, Bool.false_and]
    have jp : ¬ (0 : Int) < (j : Int) := by omega
    rw [hm]
    generalize ((j : Nat) : Int) = jj at *
    generalize colsT L = X at *
    generalize wAlike = ww at *
    generalize rowD (Rul.alike a b s) = W at *
    simp [a_l_broken, k0, n1, n2, sl, q_span, q_clock, q_every, q_move, q_alike, jp]
theorem br_back (k n j : Nat) (L : List (List Int)) (v : Nat) (d : Int) (hL : Li L n) (hj : j < L.length) (hv : v < n) : mir (k + 2) "_law_broken" [.lst (rowD (Rul.back v d)), .lst (colsT L), .int (j : Int)] = .ok (.d (.bl (lb (Rul.back v d) L j))) := by
  refine (mirN_run (d := a_l_broken) rfl _).trans ((run_0 rfl).trans ?_)
  have k0 : subD (.lst (rowD (Rul.back v d))) (.int 0) = .ok (.str wBack) := row_0 (Rul.back v d)
  have n1 : subD (.lst (rowD (Rul.back v d))) (.int 1) = .ok (.int ((v : Int) + 1)) := sub_row (k := (Rul.back v d).kind) (is := (Rul.back v d).nums) (i := 0) rfl
  have n2 : subD (.lst (rowD (Rul.back v d))) (.int 2) = .ok (.int (d)) := sub_row (k := (Rul.back v d).kind) (is := (Rul.back v d).nums) (i := 1) rfl
  have q_span := w_ne wBack [115, 112, 97, 110] rfl
  have q_clock := w_ne wBack [99, 108, 111, 99, 107] rfl
  have q_every := w_ne wBack [101, 118, 101, 114, 121] rfl
  have q_move := w_ne wBack [109, 111, 118, 101] rfl
  have q_alike := w_ne wBack [97, 108, 105, 107, 101] rfl
  have ovv := ov_back k n j L v d hL hj
  have st : slcD (.lst (colsT L)) none (some ((j : Int) + 1)) = .ok (.fr (colsT (L.take (j + 1)))) := slc_cols_to L (j + 1)
  have tl : (colsT (L.take (j + 1))).length ≤ 16777216 := by rw [colsT_len]; have := (hL.take (j + 1)).len; omega
  have cc := comp_nts (Γ := mirN defs (k + 1)) (T := [.fz (.lst (rowD (Rul.back v d))), .fz (.lst (colsT L)), .fz (.int (j : Int)), .no]) (tv := 3) (q := q_l_broken_0) (hL.take (j + 1)) hv fun c e => by simp [q_l_broken_0, n1, e]
  generalize lb (Rul.back v d) L j = bb at *
  generalize ((j : Nat) : Int) = jj at *
  generalize intsD (nts (L.take (j + 1)) v) = Y at *
  generalize colsT (L.take (j + 1)) = XT at *
  generalize colsT L = X at *
  generalize wBack = ww at *
  generalize rowD (Rul.back v d) = W at *
  simp [a_l_broken, k0, n1, n2, q_span, q_clock, q_every, q_move, q_alike, st, wipeS, tl, cc, ovv]
theorem br_held (k n j : Nat) (L : List (List Int)) (v : Nat) (m : Int) (hL : Li L n) (hj : j < L.length) (hv : v < n) (hm1 : 1 ≤ m) : mir (k + 2) "_law_broken" [.lst (rowD (Rul.held v m)), .lst (colsT L), .int (j : Int)] = .ok (.d (.bl (lb (Rul.held v m) L j))) := by
  refine (mirN_run (d := a_l_broken) rfl _).trans ((run_0 rfl).trans ?_)
  have k0 : subD (.lst (rowD (Rul.held v m))) (.int 0) = .ok (.str wHeld) := row_0 (Rul.held v m)
  have n1 : subD (.lst (rowD (Rul.held v m))) (.int 1) = .ok (.int ((v : Int) + 1)) := sub_row (k := (Rul.held v m).kind) (is := (Rul.held v m).nums) (i := 0) rfl
  have n2 : subD (.lst (rowD (Rul.held v m))) (.int 2) = .ok (.int (m)) := sub_row (k := (Rul.held v m).kind) (is := (Rul.held v m).nums) (i := 1) rfl
  have q_span := w_ne wHeld [115, 112, 97, 110] rfl
  have q_clock := w_ne wHeld [99, 108, 111, 99, 107] rfl
  have q_every := w_ne wHeld [101, 118, 101, 114, 121] rfl
  have q_move := w_ne wHeld [109, 111, 118, 101] rfl
  have q_alike := w_ne wHeld [97, 108, 105, 107, 101] rfl
  have ovv := ov_held k n j L v m hL hj hm1
  have st : slcD (.lst (colsT L)) none (some ((j : Int) + 1)) = .ok (.fr (colsT (L.take (j + 1)))) := slc_cols_to L (j + 1)
  have tl : (colsT (L.take (j + 1))).length ≤ 16777216 := by rw [colsT_len]; have := (hL.take (j + 1)).len; omega
  have cc := comp_nts (Γ := mirN defs (k + 1)) (T := [.fz (.lst (rowD (Rul.held v m))), .fz (.lst (colsT L)), .fz (.int (j : Int)), .no]) (tv := 3) (q := q_l_broken_0) (hL.take (j + 1)) hv fun c e => by simp [q_l_broken_0, n1, e]
  generalize lb (Rul.held v m) L j = bb at *
  generalize ((j : Nat) : Int) = jj at *
  generalize intsD (nts (L.take (j + 1)) v) = Y at *
  generalize colsT (L.take (j + 1)) = XT at *
  generalize colsT L = X at *
  generalize wHeld = ww at *
  generalize rowD (Rul.held v m) = W at *
  simp [a_l_broken, k0, n1, n2, q_span, q_clock, q_every, q_move, q_alike, st, wipeS, tl, cc, ovv]
theorem br_times (k n j : Nat) (L : List (List Int)) (v : Nat) (x lo hi : Int) (hL : Li L n) (hj : j < L.length) (hv : v < n) : mir (k + 2) "_law_broken" [.lst (rowD (Rul.times v x lo hi)), .lst (colsT L), .int (j : Int)] = .ok (.d (.bl (lb (Rul.times v x lo hi) L j))) := by
  refine (mirN_run (d := a_l_broken) rfl _).trans ((run_0 rfl).trans ?_)
  have k0 : subD (.lst (rowD (Rul.times v x lo hi))) (.int 0) = .ok (.str wTimes) := row_0 (Rul.times v x lo hi)
  have n1 : subD (.lst (rowD (Rul.times v x lo hi))) (.int 1) = .ok (.int ((v : Int) + 1)) := sub_row (k := (Rul.times v x lo hi).kind) (is := (Rul.times v x lo hi).nums) (i := 0) rfl
  have n2 : subD (.lst (rowD (Rul.times v x lo hi))) (.int 2) = .ok (.int (x)) := sub_row (k := (Rul.times v x lo hi).kind) (is := (Rul.times v x lo hi).nums) (i := 1) rfl
  have n3 : subD (.lst (rowD (Rul.times v x lo hi))) (.int 3) = .ok (.int (lo)) := sub_row (k := (Rul.times v x lo hi).kind) (is := (Rul.times v x lo hi).nums) (i := 2) rfl
  have n4 : subD (.lst (rowD (Rul.times v x lo hi))) (.int 4) = .ok (.int (hi)) := sub_row (k := (Rul.times v x lo hi).kind) (is := (Rul.times v x lo hi).nums) (i := 3) rfl
  have q_span := w_ne wTimes [115, 112, 97, 110] rfl
  have q_clock := w_ne wTimes [99, 108, 111, 99, 107] rfl
  have q_every := w_ne wTimes [101, 118, 101, 114, 121] rfl
  have q_move := w_ne wTimes [109, 111, 118, 101] rfl
  have q_alike := w_ne wTimes [97, 108, 105, 107, 101] rfl
  have ovv := ov_times k n j L v x lo hi hL hj
  have st : slcD (.lst (colsT L)) none (some ((j : Int) + 1)) = .ok (.fr (colsT (L.take (j + 1)))) := slc_cols_to L (j + 1)
  have tl : (colsT (L.take (j + 1))).length ≤ 16777216 := by rw [colsT_len]; have := (hL.take (j + 1)).len; omega
  have cc := comp_nts (Γ := mirN defs (k + 1)) (T := [.fz (.lst (rowD (Rul.times v x lo hi))), .fz (.lst (colsT L)), .fz (.int (j : Int)), .no]) (tv := 3) (q := q_l_broken_0) (hL.take (j + 1)) hv fun c e => by simp [q_l_broken_0, n1, e]
  generalize lb (Rul.times v x lo hi) L j = bb at *
  generalize ((j : Nat) : Int) = jj at *
  generalize intsD (nts (L.take (j + 1)) v) = Y at *
  generalize colsT (L.take (j + 1)) = XT at *
  generalize colsT L = X at *
  generalize wTimes = ww at *
  generalize rowD (Rul.times v x lo hi) = W at *
  simp [a_l_broken, k0, n1, n2, n3, n4, q_span, q_clock, q_every, q_move, q_alike, st, wipeS, tl, cc, ovv]
theorem br_begin (k n j : Nat) (L : List (List Int)) (v : Nat) (s : List Int) (hL : Li L n) (hj : j < L.length) (hv : v < n) : mir (k + 2) "_law_broken" [.lst (rowD (Rul.begin v s)), .lst (colsT L), .int (j : Int)] = .ok (.d (.bl (lb (Rul.begin v s) L j))) := by
  refine (mirN_run (d := a_l_broken) rfl _).trans ((run_0 rfl).trans ?_)
  have k0 : subD (.lst (rowD (Rul.begin v s))) (.int 0) = .ok (.str wBegin) := row_0 (Rul.begin v s)
  have n1 : subD (.lst (rowD (Rul.begin v s))) (.int 1) = .ok (.int ((v : Int) + 1)) := sub_row (k := (Rul.begin v s).kind) (is := (Rul.begin v s).nums) (i := 0) rfl
  have sl : slcD (.lst (rowD (Rul.begin v s))) (some 2) none = .ok (.fr (intsD s)) := slc_row (k := (Rul.begin v s).kind) (is := (Rul.begin v s).nums) (n := 1)
  have q_span := w_ne wBegin [115, 112, 97, 110] rfl
  have q_clock := w_ne wBegin [99, 108, 111, 99, 107] rfl
  have q_every := w_ne wBegin [101, 118, 101, 114, 121] rfl
  have q_move := w_ne wBegin [109, 111, 118, 101] rfl
  have q_alike := w_ne wBegin [97, 108, 105, 107, 101] rfl
  have ovv := ov_begin k n j L v s hL hj
  have st : slcD (.lst (colsT L)) none (some ((j : Int) + 1)) = .ok (.fr (colsT (L.take (j + 1)))) := slc_cols_to L (j + 1)
  have tl : (colsT (L.take (j + 1))).length ≤ 16777216 := by rw [colsT_len]; have := (hL.take (j + 1)).len; omega
  have cc := comp_nts (Γ := mirN defs (k + 1)) (T := [.fz (.lst (rowD (Rul.begin v s))), .fz (.lst (colsT L)), .fz (.int (j : Int)), .no]) (tv := 3) (q := q_l_broken_0) (hL.take (j + 1)) hv fun c e => by simp [q_l_broken_0, n1, e]
  generalize lb (Rul.begin v s) L j = bb at *
  generalize ((j : Nat) : Int) = jj at *
  generalize intsD (nts (L.take (j + 1)) v) = Y at *
  generalize colsT (L.take (j + 1)) = XT at *
  generalize colsT L = X at *
  generalize wBegin = ww at *
  generalize rowD (Rul.begin v s) = W at *
  simp [a_l_broken, k0, n1, sl, q_span, q_clock, q_every, q_move, q_alike, st, wipeS, tl, cc, ovv]
theorem br_close (k n j : Nat) (L : List (List Int)) (v : Nat) (s : List Int) (hL : Li L n) (hj : j < L.length) (hv : v < n) : mir (k + 2) "_law_broken" [.lst (rowD (Rul.close v s)), .lst (colsT L), .int (j : Int)] = .ok (.d (.bl (lb (Rul.close v s) L j))) := by
  refine (mirN_run (d := a_l_broken) rfl _).trans ((run_0 rfl).trans ?_)
  have k0 : subD (.lst (rowD (Rul.close v s))) (.int 0) = .ok (.str wClose) := row_0 (Rul.close v s)
  have n1 : subD (.lst (rowD (Rul.close v s))) (.int 1) = .ok (.int ((v : Int) + 1)) := sub_row (k := (Rul.close v s).kind) (is := (Rul.close v s).nums) (i := 0) rfl
  have sl : slcD (.lst (rowD (Rul.close v s))) (some 2) none = .ok (.fr (intsD s)) := slc_row (k := (Rul.close v s).kind) (is := (Rul.close v s).nums) (n := 1)
  have q_span := w_ne wClose [115, 112, 97, 110] rfl
  have q_clock := w_ne wClose [99, 108, 111, 99, 107] rfl
  have q_every := w_ne wClose [101, 118, 101, 114, 121] rfl
  have q_move := w_ne wClose [109, 111, 118, 101] rfl
  have q_alike := w_ne wClose [97, 108, 105, 107, 101] rfl
  have ovv := ov_close k n j L v s hL hj
  have st : slcD (.lst (colsT L)) none (some ((j : Int) + 1)) = .ok (.fr (colsT (L.take (j + 1)))) := slc_cols_to L (j + 1)
  have tl : (colsT (L.take (j + 1))).length ≤ 16777216 := by rw [colsT_len]; have := (hL.take (j + 1)).len; omega
  have cc := comp_nts (Γ := mirN defs (k + 1)) (T := [.fz (.lst (rowD (Rul.close v s))), .fz (.lst (colsT L)), .fz (.int (j : Int)), .no]) (tv := 3) (q := q_l_broken_0) (hL.take (j + 1)) hv fun c e => by simp [q_l_broken_0, n1, e]
  generalize lb (Rul.close v s) L j = bb at *
  generalize ((j : Nat) : Int) = jj at *
  generalize intsD (nts (L.take (j + 1)) v) = Y at *
  generalize colsT (L.take (j + 1)) = XT at *
  generalize colsT L = X at *
  generalize wClose = ww at *
  generalize rowD (Rul.close v s) = W at *
  simp [a_l_broken, k0, n1, sl, q_span, q_clock, q_every, q_move, q_alike, st, wipeS, tl, cc, ovv]
theorem bc_span (k n : Nat) (L : List (List Int)) (a b : Nat) (s : List Int) (hL : Li L n) : mir (k + 1) "_law_badly_closed" [.lst (rowD (Rul.span a b s)), .lst (colsT L)] = .ok (.d (.bl (opn (Rul.span a b s) L))) := by
  refine (mirN_run (d := a_l_badly_closed) rfl _).trans ((run_0 rfl).trans ?_)
  have k0 : subD (.lst (rowD (Rul.span a b s))) (.int 0) = .ok (.str wSpan) := row_0 (Rul.span a b s)
  have n1 : subD (.lst (rowD (Rul.span a b s))) (.int 1) = .ok (.int ((a : Int) + 1)) := sub_row (k := (Rul.span a b s).kind) (is := (Rul.span a b s).nums) (i := 0) rfl
  have n2 : subD (.lst (rowD (Rul.span a b s))) (.int 2) = .ok (.int ((b : Int) + 1)) := sub_row (k := (Rul.span a b s).kind) (is := (Rul.span a b s).nums) (i := 1) rfl
  have sl : slcD (.lst (rowD (Rul.span a b s))) (some 3) none = .ok (.fr (intsD s)) := slc_row (k := (Rul.span a b s).kind) (is := (Rul.span a b s).nums) (n := 2)
  have inn : cmpD .nin (.str wSpan) (.tup [.str [98, 97, 99, 107], .str [116, 105, 109, 101, 115], .str [99, 108, 111, 115, 101]]) = .ok true := nin3 wSpan _ (by decide)
  have hm : opn (Rul.span a b s) L = false := rfl
  rw [hm]
  generalize colsT L = X at *
  generalize wSpan = ww at *
  generalize rowD (Rul.span a b s) = W at *
  simp [a_l_badly_closed, k0, n1, n2, sl, inn]
theorem bc_clock (k n : Nat) (L : List (List Int)) (a b : Nat) (m : Int) (s : List Int) (hL : Li L n) : mir (k + 1) "_law_badly_closed" [.lst (rowD (Rul.clock a b m s)), .lst (colsT L)] = .ok (.d (.bl (opn (Rul.clock a b m s) L))) := by
  refine (mirN_run (d := a_l_badly_closed) rfl _).trans ((run_0 rfl).trans ?_)
  have k0 : subD (.lst (rowD (Rul.clock a b m s))) (.int 0) = .ok (.str wClock) := row_0 (Rul.clock a b m s)
  have n1 : subD (.lst (rowD (Rul.clock a b m s))) (.int 1) = .ok (.int ((a : Int) + 1)) := sub_row (k := (Rul.clock a b m s).kind) (is := (Rul.clock a b m s).nums) (i := 0) rfl
  have n2 : subD (.lst (rowD (Rul.clock a b m s))) (.int 2) = .ok (.int ((b : Int) + 1)) := sub_row (k := (Rul.clock a b m s).kind) (is := (Rul.clock a b m s).nums) (i := 1) rfl
  have n3 : subD (.lst (rowD (Rul.clock a b m s))) (.int 3) = .ok (.int (m)) := sub_row (k := (Rul.clock a b m s).kind) (is := (Rul.clock a b m s).nums) (i := 2) rfl
  have sl : slcD (.lst (rowD (Rul.clock a b m s))) (some 4) none = .ok (.fr (intsD s)) := slc_row (k := (Rul.clock a b m s).kind) (is := (Rul.clock a b m s).nums) (n := 3)
  have inn : cmpD .nin (.str wClock) (.tup [.str [98, 97, 99, 107], .str [116, 105, 109, 101, 115], .str [99, 108, 111, 115, 101]]) = .ok true := nin3 wClock _ (by decide)
  have hm : opn (Rul.clock a b m s) L = false := rfl
  rw [hm]
  generalize colsT L = X at *
  generalize wClock = ww at *
  generalize rowD (Rul.clock a b m s) = W at *
  simp [a_l_badly_closed, k0, n1, n2, n3, sl, inn]
theorem bc_move (k n : Nat) (L : List (List Int)) (v : Nat) (s : List Int) (hL : Li L n) : mir (k + 1) "_law_badly_closed" [.lst (rowD (Rul.move v s)), .lst (colsT L)] = .ok (.d (.bl (opn (Rul.move v s) L))) := by
  refine (mirN_run (d := a_l_badly_closed) rfl _).trans ((run_0 rfl).trans ?_)
  have k0 : subD (.lst (rowD (Rul.move v s))) (.int 0) = .ok (.str wMove) := row_0 (Rul.move v s)
  have n1 : subD (.lst (rowD (Rul.move v s))) (.int 1) = .ok (.int ((v : Int) + 1)) := sub_row (k := (Rul.move v s).kind) (is := (Rul.move v s).nums) (i := 0) rfl
  have sl : slcD (.lst (rowD (Rul.move v s))) (some 2) none = .ok (.fr (intsD s)) := slc_row (k := (Rul.move v s).kind) (is := (Rul.move v s).nums) (n := 1)
  have inn : cmpD .nin (.str wMove) (.tup [.str [98, 97, 99, 107], .str [116, 105, 109, 101, 115], .str [99, 108, 111, 115, 101]]) = .ok true := nin3 wMove _ (by decide)
  have hm : opn (Rul.move v s) L = false := rfl
  rw [hm]
  generalize colsT L = X at *
  generalize wMove = ww at *
  generalize rowD (Rul.move v s) = W at *
  simp [a_l_badly_closed, k0, n1, sl, inn]
theorem bc_alike (k n : Nat) (L : List (List Int)) (a b : Nat) (s : List Int) (hL : Li L n) : mir (k + 1) "_law_badly_closed" [.lst (rowD (Rul.alike a b s)), .lst (colsT L)] = .ok (.d (.bl (opn (Rul.alike a b s) L))) := by
  refine (mirN_run (d := a_l_badly_closed) rfl _).trans ((run_0 rfl).trans ?_)
  have k0 : subD (.lst (rowD (Rul.alike a b s))) (.int 0) = .ok (.str wAlike) := row_0 (Rul.alike a b s)
  have n1 : subD (.lst (rowD (Rul.alike a b s))) (.int 1) = .ok (.int ((a : Int) + 1)) := sub_row (k := (Rul.alike a b s).kind) (is := (Rul.alike a b s).nums) (i := 0) rfl
  have n2 : subD (.lst (rowD (Rul.alike a b s))) (.int 2) = .ok (.int ((b : Int) + 1)) := sub_row (k := (Rul.alike a b s).kind) (is := (Rul.alike a b s).nums) (i := 1) rfl
  have sl : slcD (.lst (rowD (Rul.alike a b s))) (some 3) none = .ok (.fr (intsD s)) := slc_row (k := (Rul.alike a b s).kind) (is := (Rul.alike a b s).nums) (n := 2)
  have inn : cmpD .nin (.str wAlike) (.tup [.str [98, 97, 99, 107], .str [116, 105, 109, 101, 115], .str [99, 108, 111, 115, 101]]) = .ok true := nin3 wAlike _ (by decide)
  have hm : opn (Rul.alike a b s) L = false := rfl
  rw [hm]
  generalize colsT L = X at *
  generalize wAlike = ww at *
  generalize rowD (Rul.alike a b s) = W at *
  simp [a_l_badly_closed, k0, n1, n2, sl, inn]
theorem bc_back (k n : Nat) (L : List (List Int)) (v : Nat) (d : Int) (hL : Li L n) (hv : v < n) : mir (k + 1) "_law_badly_closed" [.lst (rowD (Rul.back v d)), .lst (colsT L)] = .ok (.d (.bl (opn (Rul.back v d) L))) := by
  refine (mirN_run (d := a_l_badly_closed) rfl _).trans ((run_0 rfl).trans ?_)
  have k0 : subD (.lst (rowD (Rul.back v d))) (.int 0) = .ok (.str wBack) := row_0 (Rul.back v d)
  have n1 : subD (.lst (rowD (Rul.back v d))) (.int 1) = .ok (.int ((v : Int) + 1)) := sub_row (k := (Rul.back v d).kind) (is := (Rul.back v d).nums) (i := 0) rfl
  have n2 : subD (.lst (rowD (Rul.back v d))) (.int 2) = .ok (.int (d)) := sub_row (k := (Rul.back v d).kind) (is := (Rul.back v d).nums) (i := 1) rfl
  have q_times := w_ne wBack [116, 105, 109, 101, 115] rfl
  have q_close := w_ne wBack [99, 108, 111, 115, 101] rfl
  have inn : cmpD .nin (.str wBack) (.tup [.str [98, 97, 99, 107], .str [116, 105, 109, 101, 115], .str [99, 108, 111, 115, 101]]) = .ok false := nin3 wBack _ (by decide)
  have tl : (colsT L).length ≤ 16777216 := by rw [colsT_len]; have := hL.len; omega
  have cc := comp_nts (Γ := mirN defs k) (T := [.fz (.lst (rowD (Rul.back v d))), .fz (.lst (colsT L)), .no, .no]) (tv := 3) (q := q_l_badly_closed_0) hL hv fun c e => by simp [q_l_badly_closed_0, n1, e]
  have hm : opn (Rul.back v d) L = (decide (1 < L.length) && decide (d < ((mv L v (L.length - 1)).natAbs : Int))) := rfl
  rw [hm]
  have ll : ((intsD (nts L v)).length : Int) = (L.length : Int) := by rw [intsD_len, nts_len]
  by_cases h : 1 < L.length
  · rw [decide_eq_true h, Bool.true_and]
    have jp : (1 : Int) < (L.length : Int) := by omega
    have e1 := sub_nts_last (L := L) (v := v) (by omega)
    have e2 := sub_nts_last2 (v := v) h
    have hmv : mv L v (L.length - 1) = nt (colAt L (L.length - 1)) v - nt (colAt L (L.length - 2)) v := by
      unfold mv
      rw [show L.length - 1 - 1 = L.length - 2 from by omega]
    rw [hmv]
    generalize nt (colAt L (L.length - 1)) v = x at *
    generalize nt (colAt L (L.length - 2)) v = y at *
    have ha := abs_eq (x - y)
    have ba : biD .abs [.int (x - y)] = .ok (.d (.int (((x - y).natAbs : Nat) : Int))) := by rw [bi_abs, ha]
    generalize (((x - y).natAbs : Nat) : Int) = z at *
    generalize intsD (nts L v) = Y at *
    generalize ((L.length : Nat) : Int) = len at *
    generalize colsT L = X at *
    generalize wBack = ww at *
    generalize rowD (Rul.back v d) = W at *
    simp [a_l_badly_closed, k0, n1, n2, q_times, q_close, inn, wipeS, tl, cc, ll, jp, e1, e2, ba]
  · rw [decide_eq_false h, Bool.false_and]
    have jp : ¬ (1 : Int) < (L.length : Int) := by omega
    generalize intsD (nts L v) = Y at *
    generalize ((L.length : Nat) : Int) = len at *
    generalize colsT L = X at *
    generalize wBack = ww at *
    generalize rowD (Rul.back v d) = W at *
    simp [a_l_badly_closed, k0, n1, n2, q_times, q_close, inn, wipeS, tl, cc, ll, jp]
theorem bc_held (k n : Nat) (L : List (List Int)) (v : Nat) (m : Int) (hL : Li L n) : mir (k + 1) "_law_badly_closed" [.lst (rowD (Rul.held v m)), .lst (colsT L)] = .ok (.d (.bl (opn (Rul.held v m) L))) := by
  refine (mirN_run (d := a_l_badly_closed) rfl _).trans ((run_0 rfl).trans ?_)
  have k0 : subD (.lst (rowD (Rul.held v m))) (.int 0) = .ok (.str wHeld) := row_0 (Rul.held v m)
  have n1 : subD (.lst (rowD (Rul.held v m))) (.int 1) = .ok (.int ((v : Int) + 1)) := sub_row (k := (Rul.held v m).kind) (is := (Rul.held v m).nums) (i := 0) rfl
  have n2 : subD (.lst (rowD (Rul.held v m))) (.int 2) = .ok (.int (m)) := sub_row (k := (Rul.held v m).kind) (is := (Rul.held v m).nums) (i := 1) rfl
  have inn : cmpD .nin (.str wHeld) (.tup [.str [98, 97, 99, 107], .str [116, 105, 109, 101, 115], .str [99, 108, 111, 115, 101]]) = .ok true := nin3 wHeld _ (by decide)
  have hm : opn (Rul.held v m) L = false := rfl
  rw [hm]
  generalize colsT L = X at *
  generalize wHeld = ww at *
  generalize rowD (Rul.held v m) = W at *
  simp [a_l_badly_closed, k0, n1, n2, inn]
theorem bc_times (k n : Nat) (L : List (List Int)) (v : Nat) (x lo hi : Int) (hL : Li L n) (hv : v < n) : mir (k + 1) "_law_badly_closed" [.lst (rowD (Rul.times v x lo hi)), .lst (colsT L)] = .ok (.d (.bl (opn (Rul.times v x lo hi) L))) := by
  refine (mirN_run (d := a_l_badly_closed) rfl _).trans ((run_0 rfl).trans ?_)
  have k0 : subD (.lst (rowD (Rul.times v x lo hi))) (.int 0) = .ok (.str wTimes) := row_0 (Rul.times v x lo hi)
  have n1 : subD (.lst (rowD (Rul.times v x lo hi))) (.int 1) = .ok (.int ((v : Int) + 1)) := sub_row (k := (Rul.times v x lo hi).kind) (is := (Rul.times v x lo hi).nums) (i := 0) rfl
  have n2 : subD (.lst (rowD (Rul.times v x lo hi))) (.int 2) = .ok (.int (x)) := sub_row (k := (Rul.times v x lo hi).kind) (is := (Rul.times v x lo hi).nums) (i := 1) rfl
  have n3 : subD (.lst (rowD (Rul.times v x lo hi))) (.int 3) = .ok (.int (lo)) := sub_row (k := (Rul.times v x lo hi).kind) (is := (Rul.times v x lo hi).nums) (i := 2) rfl
  have n4 : subD (.lst (rowD (Rul.times v x lo hi))) (.int 4) = .ok (.int (hi)) := sub_row (k := (Rul.times v x lo hi).kind) (is := (Rul.times v x lo hi).nums) (i := 3) rfl
  have q_times := w_is wTimes [116, 105, 109, 101, 115] rfl
  have q_close := w_ne wTimes [99, 108, 111, 115, 101] rfl
  have inn : cmpD .nin (.str wTimes) (.tup [.str [98, 97, 99, 107], .str [116, 105, 109, 101, 115], .str [99, 108, 111, 115, 101]]) = .ok false := nin3 wTimes _ (by decide)
  have tl : (colsT L).length ≤ 16777216 := by rw [colsT_len]; have := hL.len; omega
  have cc := comp_nts (Γ := mirN defs k) (T := [.fz (.lst (rowD (Rul.times v x lo hi))), .fz (.lst (colsT L)), .no, .no]) (tv := 3) (q := q_l_badly_closed_0) hL hv fun c e => by simp [q_l_badly_closed_0, n1, e]
  have hm : opn (Rul.times v x lo hi) L = decide ((cnt L v x : Int) < lo) := rfl
  rw [hm]
  have ls := lsI_ints (nts L v)
  have ct : cntD (nts L v) x = .ok (.d (.int (cnt L v x : Int))) := by
    show R.ok (Val.d (.int _)) = _
    rw [nts_cnt]
  generalize ((cnt L v x : Nat) : Int) = cn at *
  generalize nts L v = Y at *
  generalize colsT L = X at *
  generalize wTimes = ww at *
  generalize rowD (Rul.times v x lo hi) = W at *
  simp [a_l_badly_closed, k0, n1, n2, n3, n4, q_times, q_close, inn, wipeS, tl, cc, ls, ct]
theorem bc_begin (k n : Nat) (L : List (List Int)) (v : Nat) (s : List Int) (hL : Li L n) : mir (k + 1) "_law_badly_closed" [.lst (rowD (Rul.begin v s)), .lst (colsT L)] = .ok (.d (.bl (opn (Rul.begin v s) L))) := by
  refine (mirN_run (d := a_l_badly_closed) rfl _).trans ((run_0 rfl).trans ?_)
  have k0 : subD (.lst (rowD (Rul.begin v s))) (.int 0) = .ok (.str wBegin) := row_0 (Rul.begin v s)
  have n1 : subD (.lst (rowD (Rul.begin v s))) (.int 1) = .ok (.int ((v : Int) + 1)) := sub_row (k := (Rul.begin v s).kind) (is := (Rul.begin v s).nums) (i := 0) rfl
  have sl : slcD (.lst (rowD (Rul.begin v s))) (some 2) none = .ok (.fr (intsD s)) := slc_row (k := (Rul.begin v s).kind) (is := (Rul.begin v s).nums) (n := 1)
  have inn : cmpD .nin (.str wBegin) (.tup [.str [98, 97, 99, 107], .str [116, 105, 109, 101, 115], .str [99, 108, 111, 115, 101]]) = .ok true := nin3 wBegin _ (by decide)
  have hm : opn (Rul.begin v s) L = false := rfl
  rw [hm]
  generalize colsT L = X at *
  generalize wBegin = ww at *
  generalize rowD (Rul.begin v s) = W at *
  simp [a_l_badly_closed, k0, n1, sl, inn]
theorem bc_close (k n : Nat) (L : List (List Int)) (v : Nat) (s : List Int) (hL : Li L n) (hv : v < n) : mir (k + 1) "_law_badly_closed" [.lst (rowD (Rul.close v s)), .lst (colsT L)] = .ok (.d (.bl (opn (Rul.close v s) L))) := by
  refine (mirN_run (d := a_l_badly_closed) rfl _).trans ((run_0 rfl).trans ?_)
  have k0 : subD (.lst (rowD (Rul.close v s))) (.int 0) = .ok (.str wClose) := row_0 (Rul.close v s)
  have n1 : subD (.lst (rowD (Rul.close v s))) (.int 1) = .ok (.int ((v : Int) + 1)) := sub_row (k := (Rul.close v s).kind) (is := (Rul.close v s).nums) (i := 0) rfl
  have sl : slcD (.lst (rowD (Rul.close v s))) (some 2) none = .ok (.fr (intsD s)) := slc_row (k := (Rul.close v s).kind) (is := (Rul.close v s).nums) (n := 1)
  have q_times := w_ne wClose [116, 105, 109, 101, 115] rfl
  have q_close := w_is wClose [99, 108, 111, 115, 101] rfl
  have inn : cmpD .nin (.str wClose) (.tup [.str [98, 97, 99, 107], .str [116, 105, 109, 101, 115], .str [99, 108, 111, 115, 101]]) = .ok false := nin3 wClose _ (by decide)
  have tl : (colsT L).length ≤ 16777216 := by rw [colsT_len]; have := hL.len; omega
  have cc := comp_nts (Γ := mirN defs k) (T := [.fz (.lst (rowD (Rul.close v s))), .fz (.lst (colsT L)), .no, .no]) (tv := 3) (q := q_l_badly_closed_0) hL hv fun c e => by simp [q_l_badly_closed_0, n1, e]
  have hm : opn (Rul.close v s) L = (decide (L ≠ []) && !decide (nt (colAt L (L.length - 1)) v ∈ s)) := rfl
  rw [hm]
  have nn := ne_nts L v
  by_cases g : L = []
  · have gn : decide (L ≠ []) = false := decide_eq_false fun z => z g
    rw [gn] at nn ⊢
    rw [Bool.false_and]
    generalize intsD (nts L v) = Y at *
    generalize colsT L = X at *
    generalize wClose = ww at *
    generalize rowD (Rul.close v s) = W at *
    simp [a_l_badly_closed, k0, n1, sl, q_times, q_close, inn, wipeS, tl, cc, nn]
  · have gn : decide (L ≠ []) = true := decide_eq_true g
    rw [gn] at nn ⊢
    rw [Bool.true_and]
    have xl := sub_nts_last (v := v) (len_pos g)
    generalize nt (colAt L (L.length - 1)) v = y at *
    generalize intsD (nts L v) = Y at *
    generalize colsT L = X at *
    generalize wClose = ww at *
    generalize rowD (Rul.close v s) = W at *
    simp [a_l_badly_closed, k0, n1, sl, q_times, q_close, inn, wipeS, tl, cc, nn, xl]
theorem oc_eq (k n j : Nat) (L : List (List Int)) (r : Rul) (hok : r.Ok n) (hk : r.kind = wSpan ∨ r.kind = wClock) (hL : Li L n) (hj : j < L.length) : mir (k + 1) "_law_one_column" [.lst (rowD r), .tup (intsD (colAt L j))] = .ok (.d (.bl (lb r L j))) := by
  cases r with
  | span a b s => exact oc_span k n j L a b s hL hj hok.1 hok.2.1
  | clock a b m s => exact oc_clock k n j L a b m s hL hj hok.1 hok.2.1 (by have := hok.2.2.1.1; omega)
  | _ => rcases hk with h | h <;> exact absurd h (by simp [Rul.kind, wSpan, wClock, wMove, wAlike, wBack, wHeld, wTimes, wBegin, wClose, wEvery])
theorem lbrk_eq (k n j : Nat) (hn : n ≤ 1000) (L : List (List Int)) (r : Rul) (hok : r.Ok n) (hL : Li L n) (hj : j < L.length) : mir (k + 2) "_law_broken" [.lst (rowD r), .lst (colsT L), .int (j : Int)] = .ok (.d (.bl (lb r L j))) := by
  cases r with
  | span a b s => exact br_span k n j L a b s hL hj hok.1 hok.2.1
  | clock a b m s => exact br_clock k n j L a b m s hL hj hok.1 hok.2.1 (by have := hok.2.2.1.1; omega)
  | move v s => exact br_move k n j L v s hL hj hok.1
  | alike a b s => exact br_alike k n j L a b s hL hj hok.1 hok.2.1
  | back v d => exact br_back k n j L v d hL hj hok.1
  | held v m => exact br_held k n j L v m hL hj hok.1 hok.2.1
  | times v x lo hi => exact br_times k n j L v x lo hi hL hj hok.1
  | begin v s => exact br_begin k n j L v s hL hj hok.1
  | close v s => exact br_close k n j L v s hL hj hok.1
  | every m a r =>
    refine (mirN_run (d := a_l_broken) rfl _).trans ((run_0 rfl).trans ?_)
    obtain ⟨g1, g2, g3, g4, g5⟩ := every_words hn hok
    have k0 : subD (.lst (rowD (.every m a r))) (.int 0) = .ok (.str wEvery) := sub_lst (i := 0) rfl
    have n1 : subD (.lst (rowD (.every m a r))) (.int 1) = .ok (.int m) := sub_lst (i := 1) rfl
    have n2 : subD (.lst (rowD (.every m a r))) (.int 2) = .ok (.int a) := sub_lst (i := 2) rfl
    have s3 : slcD (.lst (rowD (.every m a r))) (some 3) none = .ok (.fr (rowD r)) := by
      have z := slc_lst_from (s := rowD (.every m a r)) (n := 3)
      rw [rowD_flat g2]
      exact z
    have q_span := w_ne wEvery [115, 112, 97, 110] rfl
    have q_clock := w_ne wEvery [99, 108, 111, 99, 107] rfl
    have q_every := w_is wEvery [101, 118, 101, 114, 121] rfl
    have oc := oc_eq k n j L r g1 g3 hL hj
    have e1 := sub_col hj
    have m0 : 0 < m := by have := g4.1; omega
    have hm : lb (.every m a r) L j = (decide ((j : Int) % m = a) && lb r L j) := rfl
    rw [hm]
    generalize lb r L j = bb at *
    generalize ((j : Nat) : Int) = jj at *
    generalize intsD (colAt L j) = cc at *
    generalize wEvery = ww at *
    generalize rowD (.every m a r) = W at *
    generalize rowD r = W2 at *
    generalize colsT L = X at *
    by_cases g : jj % m = a
    · simp [a_l_broken, k0, q_span, q_clock, q_every, n1, n2, s3, m0, oc, e1, g]
    · simp [a_l_broken, k0, q_span, q_clock, q_every, n1, n2, s3, m0, oc, e1, g]
theorem lbad_eq (k n : Nat) (L : List (List Int)) (r : Rul) (hok : r.Ok n) (hL : Li L n) : mir (k + 1) "_law_badly_closed" [.lst (rowD r), .lst (colsT L)] = .ok (.d (.bl (opn r L))) := by
  cases r with
  | span a b s => exact bc_span k n L a b s hL
  | clock a b m s => exact bc_clock k n L a b m s hL
  | move v s => exact bc_move k n L v s hL
  | alike a b s => exact bc_alike k n L a b s hL
  | back v d => exact bc_back k n L v d hL hok.1
  | held v m => exact bc_held k n L v m hL
  | times v x lo hi => exact bc_times k n L v x lo hi hL hok.1
  | begin v s => exact bc_begin k n L v s hL
  | close v s => exact bc_close k n L v s hL hok.1
  | every m a r =>
    refine (mirN_run (d := a_l_badly_closed) rfl _).trans ((run_0 rfl).trans ?_)
    have k0 : subD (.lst (rowD (.every m a r))) (.int 0) = .ok (.str wEvery) := sub_lst (i := 0) rfl
    have inn : cmpD .nin (.str wEvery) (.tup [.str [98, 97, 99, 107], .str [116, 105, 109, 101, 115], .str [99, 108, 111, 115, 101]]) = .ok true := nin3 wEvery _ (by decide)
    have hm : opn (.every m a r) L = false := rfl
    rw [hm]
    generalize colsT L = X at *
    generalize wEvery = ww at *
    generalize rowD (.every m a r) = W at *
    simp [a_l_badly_closed, k0, inn]
end Lk23
end
section
set_option maxHeartbeats 1000000
namespace Lk23
open Fv
def oN : Option Nat → D
  | none => .non
  | some i => .int (i : Int)
theorem pick_at {j : Nat} : ∀ (Q : List (Nat → Bool)) (s i : Nat), (∀ t q, t < i → Q[t]? = some q → q j = false) → (∃ q, Q[i]? = some q ∧ q j = true) → pickR Q j s = some (s + i)
  | [], _, _, _, ⟨q, e, _⟩ => by simp at e
  | p :: Q, s, 0, _, ⟨q, e, h⟩ => by
    rw [List.getElem?_cons_zero] at e
    cases e
    exact if_pos h
  | p :: Q, s, i + 1, hno, ⟨q, e, h⟩ => by
    have h0 : p j = false := hno 0 p (by omega) rfl
    rw [List.getElem?_cons_succ] at e
    have ih := pick_at Q (s + 1) i (fun t q ht hq => hno (t + 1) q (by omega) (by rw [List.getElem?_cons_succ]; exact hq)) ⟨q, e, h⟩
    show (if p j = true then some s else pickR Q j (s + 1)) = _
    rw [h0, if_neg (by decide), ih]
    congr 1
    omega
theorem pick_no {j : Nat} : ∀ (Q : List (Nat → Bool)) (s : Nat), (∀ (t : Nat) (q : Nat → Bool), Q[t]? = some q → q j = false) → pickR Q j s = none
  | [], _, _ => rfl
  | p :: Q, s, hno => by
    have h0 : p j = false := hno 0 p rfl
    show (if p j = true then some s else pickR Q j (s + 1)) = _
    rw [h0, if_neg (by decide)]
    exact pick_no Q (s + 1) fun t q hq => hno (t + 1) q (by rw [List.getElem?_cons_succ]; exact hq)
theorem best_at {Q : List (Nat → Bool)} {x : Nat} : ∀ (i a k : Nat), (∀ t, t < i → pickR Q (a + t) 0 = none) → pickR Q (a + i) 0 = some x → i < k → best Q a k = some (((a + i : Nat) : Int), (x : Int))
  | 0, a, 0, _, _, h => by omega
  | 0, a, k + 1, _, h, _ => by
    show (match pickR Q a 0 with | some i => some ((a : Int), (i : Int)) | none => best Q (a + 1) k) = _
    have h : pickR Q a 0 = some x := h
    rw [h]
    rfl
  | i + 1, a, 0, _, _, h => by omega
  | i + 1, a, k + 1, hno, h, hk => by
    have h0 : pickR Q a 0 = none := hno 0 (by omega)
    show (match pickR Q a 0 with | some i => some ((a : Int), (i : Int)) | none => best Q (a + 1) k) = _
    rw [h0]
    have ih := best_at i (a + 1) k (fun t ht => by rw [show a + 1 + t = a + (t + 1) from by omega]; exact hno (t + 1) (by omega)) (by rw [show a + 1 + i = a + (i + 1) from by omega]; exact h) (by omega)
    rw [show a + 1 + i = a + (i + 1) from by omega] at ih
    exact ih
theorem best_no {Q : List (Nat → Bool)} : ∀ (k a : Nat), (∀ t, t < k → pickR Q (a + t) 0 = none) → best Q a k = none
  | 0, _, _ => rfl
  | k + 1, a, hno => by
    have h0 : pickR Q a 0 = none := hno 0 (by omega)
    show (match pickR Q a 0 with | some i => some ((a : Int), (i : Int)) | none => best Q (a + 1) k) = _
    rw [h0]
    exact best_no k (a + 1) fun t ht => by rw [show a + 1 + t = a + (t + 1) from by omega]; exact hno (t + 1) (by omega)
theorem all_v {rg : Rg} {rs : List Rul} {L : List (List Int)} {t : Nat} (h : t < rg.length) : (allRows rg rs L)[t]? = some (qV (lo rg t) (hi rg t) t L) := by
  unfold allRows
  rw [List.getElem?_append_left (by rw [vRows_len]; exact h)]
  unfold vRows
  rw [List.getElem?_map, List.getElem?_range h]
  rfl
theorem all_r {rg : Rg} {rs : List Rul} {L : List (List Int)} {u : Nat} (h : u < rs.length) : (allRows rg rs L)[rg.length + u]? = some (qR rs[u] L) := by
  unfold allRows
  rw [List.getElem?_append_right (by rw [vRows_len]; omega), vRows_len, Nat.add_sub_cancel_left]
  unfold rRows
  rw [List.getElem?_map, List.getElem?_eq_getElem h]
  rfl
theorem all_len (rg : Rg) (rs : List Rul) (L : List (List Int)) : (allRows rg rs L).length = rg.length + rs.length := by
  unfold allRows rRows
  rw [List.length_append, vRows_len, List.length_map]
theorem row_pick {rg : Rg} {rs : List Rul} {L : List (List Int)} {j i : Nat} (hv : ∀ t, t < rg.length → qV (lo rg t) (hi rg t) t L j = false) (hr : ∀ u (h : u < rs.length), u < i → qR rs[u] L j = false) (h : i < rs.length) (hi : qR rs[i] L j = true) : pickR (allRows rg rs L) j 0 = some (rg.length + i) := by
  have z := pick_at (j := j) (allRows rg rs L) 0 (rg.length + i) (fun t q ht hq => by
    by_cases hl : t < rg.length
    · rw [all_v hl] at hq
      cases hq
      exact hv t hl
    · obtain ⟨u, rfl⟩ : ∃ u, t = rg.length + u := ⟨t - rg.length, by omega⟩
      rw [all_r (show u < rs.length by omega)] at hq
      cases hq
      exact hr u (by omega) (by omega)) ⟨_, all_r h, hi⟩
  rw [z, Nat.zero_add]
theorem row_none {rg : Rg} {rs : List Rul} {L : List (List Int)} {j : Nat} (hv : ∀ t, t < rg.length → qV (lo rg t) (hi rg t) t L j = false) (hr : ∀ u (h : u < rs.length), qR rs[u] L j = false) : pickR (allRows rg rs L) j 0 = none :=
  pick_no _ 0 fun t q hq => by
    by_cases hl : t < rg.length
    · rw [all_v hl] at hq
      cases hq
      exact hv t hl
    · obtain ⟨u, rfl⟩ : ∃ u, t = rg.length + u := ⟨t - rg.length, by omega⟩
      have hu : u < rs.length := by
        have := (List.getElem?_eq_some_iff.mp hq).1
        rw [all_len] at this
        omega
      rw [all_r hu] at hq
      cases hq
      exact hr u hu
theorem sub_rg {rg : Rg} {t : Nat} (h : t < rg.length) : subD (.lst (rgD rg)) (.int (t : Int)) = .ok (.tup [.int (lo rg t), .int (hi rg t)]) := sub_lst (rg_at h)
theorem sub_rows {rs : List Rul} {u : Nat} (h : u < rs.length) : subD (.lst (rowsD rs)) (.int (u : Int)) = .ok (.lst (rowD rs[u])) := sub_lst (rowsD_at h)
theorem sub_0 (a b : D) : subD (.tup [a, b]) (.int 0) = .ok a := rfl
theorem sub_1 (a b : D) : subD (.tup [a, b]) (.int 1) = .ok b := rfl
theorem row_at (k n j : Nat) (hn : n ≤ 1000) (rg : Rg) (rs : List Rul) (L : List (List Int)) (hg : rg.length = n) (hr : ∀ r ∈ rs, r.Ok n) (hl : rs.length ≤ 1000) (hL : Li L n) (hj : j < L.length) : mir (k + 3) "_law_row_at" [.lst (rgD rg), .lst (rowsD rs), .lst (colsT L), .int (j : Int)] = .ok (.d (oN (pickR (allRows rg rs L) j 0))) := by
  refine (mirN_run (d := a_l_row_at) rfl _).trans ((run_0 rfl).trans ?_)
  have r1 : rngD 0 (rg.length : Int) = _ := rng_n (by omega)
  have r2 : rngD 0 (rs.length : Int) = _ := rng_n (by omega)
  have l1 : ((rgD rg).length : Int) = (rg.length : Int) := by rw [rgD_len]
  have l2 : ((rowsD rs).length : Int) = (rs.length : Int) := by rw [rowsD_len]
  have e1 := sub_col hj
  have c0 := hL.col hj
  have qv : ∀ t, qV (lo rg t) (hi rg t) t L j = (decide (nt (colAt L j) t < lo rg t) || decide (hi rg t < nt (colAt L j) t)) := fun t => if_pos hj
  have qr : ∀ r, qR r L j = lb r L j := fun r => if_pos hj
  have body : (exes (mirN defs (k + 2)) a_l_row_at.body [.fz (.lst (rgD rg)), .fz (.lst (rowsD rs)), .fz (.lst (colsT L)), .fz (.int (j : Int)), .no, .no]) = (forL (.one 4) (exes (mirN defs (k + 2)) b_l_row_at_0) ((List.range rg.length).map fun i => .int (i : Nat)) [.fz (.lst (rgD rg)), .fz (.lst (rowsD rs)), .fz (.lst (colsT L)), .fz (.int (j : Int)), .no, .no]).thn (exes (mirN defs (k + 2)) (dropS 1 a_l_row_at.body)) := by
    generalize rgD rg = G at *
    simp [a_l_row_at, dropS, r1, l1]
  show (exes (mirN defs (k + 2)) a_l_row_at.body _).val = _
  have body := congrArg Out.val body
  refine body.trans ?_
  refine for_rule (R := fun o => (o.thn _).val = R.ok (Val.d (oN (pickR (allRows rg rs L) j 0)))) (fun i S => ∃ y, S = [.fz (.lst (rgD rg)), .fz (.lst (rowsD rs)), .fz (.lst (colsT L)), .fz (.int (j : Int)), y, .no] ∧ ∀ t, t < i → qV (lo rg t) (hi rg t) t L j = false) ⟨_, rfl, fun t h => by omega⟩ ?_ ?_
  · rintro i x S hx ⟨y, rfl, hv⟩
    obtain ⟨hi', rfl⟩ := rng_get hx
    refine ⟨_, rfl, ?_⟩
    have e2 := sub_rg hi'
    have e3 := sub_cn c0 (show i < n by omega)
    have q := qv i
    have pk : (decide (nt (colAt L j) i < lo rg i) || decide (hi rg i < nt (colAt L j) i)) = true → pickR (allRows rg rs L) j 0 = some i := fun h => by
      have z := pick_at (j := j) (allRows rg rs L) 0 i (fun t q' ht hq => by
        rw [all_v (by omega)] at hq
        cases hq
        exact hv t ht) ⟨_, all_v hi', by rw [qv]; exact h⟩
      rw [z, Nat.zero_add]
    have nx : qV (lo rg i) (hi rg i) i L j = false → ∀ t, t < i + 1 → qV (lo rg t) (hi rg t) t L j = false := fun h0 t ht => by
      by_cases h : t = i
      · rw [h]; exact h0
      · exact hv t (by omega)
    have nx : ¬ nt (colAt L j) i < lo rg i → ¬ hi rg i < nt (colAt L j) i → ∀ t, t < i + 1 → qV (lo rg t) (hi rg t) t L j = false := fun g1 g2 => nx (by rw [q]; simp [g1, g2])
    clear q
    generalize (∀ t, t < i + 1 → qV (lo rg t) (hi rg t) t L j = false) = Nx at nx ⊢
    generalize lo rg i = a at *
    generalize hi rg i = b at *
    generalize nt (colAt L j) i = z at *
    by_cases g1 : z < a
    · have := pk (by simp [g1])
      generalize pickR (allRows rg rs L) j 0 = pp at *
      generalize rgD rg = G at *
      generalize rowsD rs = W at *
      generalize colsT L = X at *
      simp [b_l_row_at_0, e1, e2, e3, sub_0, sub_1, g1, this, oN]
    · by_cases g2 : b < z
      · have := pk (by simp [g2])
        generalize pickR (allRows rg rs L) j 0 = pp at *
        generalize rgD rg = G at *
        generalize rowsD rs = W at *
        generalize colsT L = X at *
        simp [b_l_row_at_0, e1, e2, e3, sub_0, sub_1, g1, g2, this, oN]
      · have fin := nx g1 g2
        generalize rgD rg = G at *
        generalize rowsD rs = W at *
        generalize colsT L = X at *
        simp [b_l_row_at_0, e1, e2, e3, sub_0, sub_1, g1, g2]
        exact fin
  · rintro S ⟨y, rfl, hv⟩
    rw [List.length_map, List.length_range] at hv
    have body2 : (exes (mirN defs (k + 2)) (dropS 1 a_l_row_at.body) [.fz (.lst (rgD rg)), .fz (.lst (rowsD rs)), .fz (.lst (colsT L)), .fz (.int (j : Int)), y, .no]) = (forL (.one 5) (exes (mirN defs (k + 2)) b_l_row_at_1) ((List.range rs.length).map fun i => .int (i : Nat)) [.fz (.lst (rgD rg)), .fz (.lst (rowsD rs)), .fz (.lst (colsT L)), .fz (.int (j : Int)), y, .no]).thn (exes (mirN defs (k + 2)) (dropS 2 a_l_row_at.body)) := by
      generalize rowsD rs = G at *
      simp [a_l_row_at, dropS, r2, l2]
    rw [thn_nx, body2]
    refine for_rule (R := fun o => (o.thn _).val = R.ok (Val.d (oN (pickR (allRows rg rs L) j 0)))) (fun i S => ∃ z, S = [.fz (.lst (rgD rg)), .fz (.lst (rowsD rs)), .fz (.lst (colsT L)), .fz (.int (j : Int)), y, z] ∧ ∀ u (h : u < rs.length), u < i → qR rs[u] L j = false) ⟨_, rfl, fun t h => by omega⟩ ?_ ?_
    · rintro i x S hx ⟨z, rfl, hu⟩
      obtain ⟨hi', rfl⟩ := rng_get hx
      refine ⟨_, rfl, ?_⟩
      have e2 := sub_rows hi'
      have br : mir (k + 2) "_law_broken" [.lst (rowD rs[i]), .lst (colsT L), .int (j : Int)] = _ := lbrk_eq k n j hn L rs[i] (hr _ (List.getElem_mem hi')) hL hj
      by_cases g : lb rs[i] L j = true
      · have pk := row_pick hv (fun u h hu' => hu u h hu') hi' (by rw [qr]; exact g)
        rw [g] at br
        rw [pk]
        generalize rowD rs[i] = W2 at *
        generalize rgD rg = G at *
        generalize rowsD rs = W at *
        generalize colsT L = X at *
        simp [b_l_row_at_1, e2, br, l1, oN]
      · have g' : lb rs[i] L j = false := by simpa using g
        rw [g'] at br
        have fin : ∀ u (h : u < rs.length), u < i + 1 → qR rs[u] L j = false := fun u h hu' => by
          by_cases hh : u = i
          · subst hh; rw [qr]; exact g'
          · exact hu u h (by omega)
        generalize rowD rs[i] = W2 at *
        generalize rgD rg = G at *
        generalize rowsD rs = W at *
        generalize colsT L = X at *
        simp [b_l_row_at_1, e2, br]
        exact fin
    · rintro S ⟨z, rfl, hu⟩
      rw [List.length_map, List.length_range] at hu
      rw [row_none hv fun u h => hu u h h]
      simp [a_l_row_at, dropS, oN]
end Lk23
end
section
set_option maxHeartbeats 1000000
namespace Lk23
open Fv
theorem lfault_eq (k n : Nat) (hn : n ≤ 1000) (rg : Rg) (rs : List Rul) (L : List (List Int)) (hg : rg.length = n) (hr : ∀ r ∈ rs, r.Ok n) (hl : rs.length ≤ 1000) (hL : Li L n) : mir (k + 4) "_law_fault" [.lst (rgD rg), .lst (rowsD rs), .lst (colsT L)] = .ok (.d (oP (faultV rg rs L))) := by
  refine (mirN_run (d := a_l_fault) rfl _).trans ((run_0 rfl).trans ?_)
  have ll := hL.len
  have r1 : rngD 0 (L.length : Int) = _ := rng_n (by omega)
  have r2 : rngD 0 (rs.length : Int) = _ := rng_n (by omega)
  have l0 : ((rgD rg).length : Int) = (rg.length : Int) := by rw [rgD_len]
  have l1 : ((colsT L).length : Int) = (L.length : Int) := by rw [colsT_len]
  have l2 : ((rowsD rs).length : Int) = (rs.length : Int) := by rw [rowsD_len]
  have body : (exes (mirN defs (k + 3)) a_l_fault.body [.fz (.lst (rgD rg)), .fz (.lst (rowsD rs)), .fz (.lst (colsT L)), .no, .no, .no]) = (forL (.one 3) (exes (mirN defs (k + 3)) b_l_fault_0) ((List.range L.length).map fun i => .int (i : Nat)) [.fz (.lst (rgD rg)), .fz (.lst (rowsD rs)), .fz (.lst (colsT L)), .no, .no, .no]).thn (exes (mirN defs (k + 3)) (dropS 1 a_l_fault.body)) := by
    generalize colsT L = G at *
    simp [a_l_fault, dropS, r1, l1]
  have body := congrArg Out.val body
  refine body.trans ?_
  refine for_rule (R := fun o => (o.thn _).val = R.ok (Val.d (oP (faultV rg rs L)))) (fun i S => ∃ y z, S = [.fz (.lst (rgD rg)), .fz (.lst (rowsD rs)), .fz (.lst (colsT L)), y, z, .no] ∧ ∀ t, t < i → pickR (allRows rg rs L) t 0 = none) ⟨_, _, rfl, fun t h => by omega⟩ ?_ ?_
  · rintro i x S hx ⟨y, z, rfl, hv⟩
    obtain ⟨hi', rfl⟩ := rng_get hx
    refine ⟨_, rfl, ?_⟩
    have ra : mir (k + 3) "_law_row_at" [.lst (rgD rg), .lst (rowsD rs), .lst (colsT L), .int (i : Int)] = _ := row_at k n i hn rg rs L hg hr hl hL hi'
    cases g : pickR (allRows rg rs L) i 0 with
    | some x =>
      have fv : faultV rg rs L = some ((i : Int), (x : Int)) := by
        have z := best_at (Q := allRows rg rs L) (x := x) i 0 (L.length + 1) (fun t ht => by rw [Nat.zero_add]; exact hv t ht) (by rw [Nat.zero_add]; exact g) (by omega)
        rw [Nat.zero_add] at z
        exact z
      rw [g] at ra
      have e : oN (some x) = .int (x : Int) := rfl
      rw [e] at ra
      rw [fv]
      generalize rgD rg = G at *
      generalize rowsD rs = W at *
      generalize colsT L = X at *
      simp [b_l_fault_0, ra, oP]
    | none =>
      rw [g] at ra
      have e : oN none = .non := rfl
      rw [e] at ra
      have fin : ∀ t, t < i + 1 → pickR (allRows rg rs L) t 0 = none := fun t ht => by
        by_cases h : t = i
        · rw [h]; exact g
        · exact hv t (by omega)
      generalize rgD rg = G at *
      generalize rowsD rs = W at *
      generalize colsT L = X at *
      simp [b_l_fault_0, ra]
      exact fin
  · rintro S ⟨y, z, rfl, hv⟩
    rw [List.length_map, List.length_range] at hv
    have body2 : (exes (mirN defs (k + 3)) (dropS 1 a_l_fault.body) [.fz (.lst (rgD rg)), .fz (.lst (rowsD rs)), .fz (.lst (colsT L)), y, z, .no]) = (forL (.one 5) (exes (mirN defs (k + 3)) b_l_fault_1) ((List.range rs.length).map fun i => .int (i : Nat)) [.fz (.lst (rgD rg)), .fz (.lst (rowsD rs)), .fz (.lst (colsT L)), y, z, .no]).thn (exes (mirN defs (k + 3)) (dropS 2 a_l_fault.body)) := by
      generalize rowsD rs = G at *
      simp [a_l_fault, dropS, r2, l2]
    rw [thn_nx, body2]
    have qv : ∀ t, t < rg.length → qV (lo rg t) (hi rg t) t L L.length = false := fun t _ => if_neg (by omega)
    have qr : ∀ r, qR r L L.length = opn r L := fun r => if_neg (by omega)
    refine for_rule (R := fun o => (o.thn _).val = R.ok (Val.d (oP (faultV rg rs L)))) (fun i S => ∃ w, S = [.fz (.lst (rgD rg)), .fz (.lst (rowsD rs)), .fz (.lst (colsT L)), y, z, w] ∧ ∀ u (h : u < rs.length), u < i → qR rs[u] L L.length = false) ⟨_, rfl, fun t h => by omega⟩ ?_ ?_
    · rintro i x S hx ⟨w, rfl, hu⟩
      obtain ⟨hi', rfl⟩ := rng_get hx
      refine ⟨_, rfl, ?_⟩
      have e2 := sub_rows hi'
      have br : mir (k + 3) "_law_badly_closed" [.lst (rowD rs[i]), .lst (colsT L)] = _ := lbad_eq (k + 2) n L rs[i] (hr _ (List.getElem_mem hi')) hL
      by_cases g : opn rs[i] L = true
      · have pk := row_pick qv (fun u h hu' => hu u h hu') hi' (by rw [qr]; exact g)
        have fv : faultV rg rs L = some ((L.length : Int), ((rg.length + i : Nat) : Int)) := by
          have z := best_at (Q := allRows rg rs L) (x := rg.length + i) L.length 0 (L.length + 1) (fun t ht => by rw [Nat.zero_add]; exact hv t ht) (by rw [Nat.zero_add]; exact pk) (by omega)
          rw [Nat.zero_add] at z
          exact z
        rw [g] at br
        rw [fv]
        generalize rowD rs[i] = W2 at *
        generalize rgD rg = G at *
        generalize rowsD rs = W at *
        generalize colsT L = X at *
        simp [b_l_fault_1, e2, br, l0, l1, oP]
      · have g' : opn rs[i] L = false := by simpa using g
        rw [g'] at br
        have fin : ∀ u (h : u < rs.length), u < i + 1 → qR rs[u] L L.length = false := fun u h hu' => by
          by_cases hh : u = i
          · subst hh; rw [qr]; exact g'
          · exact hu u h (by omega)
        generalize rowD rs[i] = W2 at *
        generalize rgD rg = G at *
        generalize rowsD rs = W at *
        generalize colsT L = X at *
        simp [b_l_fault_1, e2, br]
        exact fin
    · rintro S ⟨w, rfl, hu⟩
      rw [List.length_map, List.length_range] at hu
      have fv : faultV rg rs L = none := best_no _ 0 fun t ht => by
        rw [Nat.zero_add]
        by_cases h : t = L.length
        · rw [h]; exact row_none qv fun u h => hu u h h
        · exact hv t (by omega)
      rw [fv]
      simp [a_l_fault, dropS, oP]
theorem fst_at {P : Nat → Bool} {n i : Nat} (hno : ∀ t, t < i → P t = false) (h : P i = true) (hi : i < n) : fst P 0 n = some (i : Int) := by
  cases e : fst P 0 n with
  | none =>
    have := fst_none e i (by omega) (by omega)
    rw [h] at this
    cases this
  | some p =>
    obtain ⟨q, rfl, h1, h2, h3, h4⟩ := fst_some e
    by_cases c : q < i
    · have := hno q c
      rw [h3] at this
      cases this
    · by_cases c2 : i < q
      · have := h4 i (by omega) c2
        rw [h] at this
        cases this
      · rw [show q = i from by omega]
theorem fst_no {P : Nat → Bool} {n : Nat} (hno : ∀ t, t < n → P t = false) : fst P 0 n = none := by
  cases e : fst P 0 n with
  | none => rfl
  | some p =>
    obtain ⟨q, rfl, h1, h2, h3, h4⟩ := fst_some e
    have := hno q (by omega)
    rw [h3] at this
    cases this
theorem out_eq (k n v : Nat) (a b : Int) (L : List (List Int)) (hL : Li L n) (hv : v < n) : mir (k + 1) "out_at" [.int a, .int b, .int (v : Int), .lst (colsT L)] = .ok (.d (oD (fst (outB a b v L) 0 L.length))) := by
  refine (mirN_run (d := a_out_at) rfl _).trans ((run_0 rfl).trans ?_)
  have en : enumD (.lst (colsT L)) = .ok (numD 0 (colsT L)) := rfl
  have body : (exes (mirN defs k) a_out_at.body [.fz (.int a), .fz (.int b), .fz (.int (v : Int)), .fz (.lst (colsT L)), .no, .no]) = (forL (.tup [4, 5]) (exes (mirN defs k) b_out_at_0) (numD 0 (colsT L)) [.fz (.int a), .fz (.int b), .fz (.int (v : Int)), .fz (.lst (colsT L)), .no, .no]).thn (exes (mirN defs k) (dropS 1 a_out_at.body)) := by
    generalize numD 0 (colsT L) = N at *
    generalize colsT L = G at *
    simp [a_out_at, dropS, en]
  have body := congrArg Out.val body
  refine body.trans ?_
  refine for_rule (R := fun o => (o.thn _).val = R.ok (Val.d (oD (fst (outB a b v L) 0 L.length)))) (fun i S => ∃ y z, S = [.fz (.int a), .fz (.int b), .fz (.int (v : Int)), .fz (.lst (colsT L)), y, z] ∧ ∀ t, t < i → outB a b v L t = false) ⟨_, _, rfl, fun t h => by omega⟩ ?_ ?_
  · rintro i x S hx ⟨y, z, rfl, hno⟩
    have hi' : i < L.length := by
      have := (List.getElem?_eq_some_iff.mp hx).1
      rwa [numD_len, colsT_len] at this
    rw [numD_get, colsT_at hi'] at hx
    have hx : x = .tup [.int (((0 + i : Nat)) : Int), .tup (intsD L[i])] := (Option.some.inj hx).symm
    rw [Nat.zero_add, ← colAt_eq hi'] at hx
    subst hx
    refine ⟨_, rfl, ?_⟩
    have e3 := sub_cn (hL.col hi') hv
    have ob : outB a b v L i = (decide (nt (colAt L i) v < a) || decide (b < nt (colAt L i) v)) := rfl
    have yes : outB a b v L i = true → fst (outB a b v L) 0 L.length = some (i : Int) := fun h => fst_at hno h hi'
    have no : outB a b v L i = false → ∀ t, t < i + 1 → outB a b v L t = false := fun h t ht => by
      by_cases hh : t = i
      · rw [hh]; exact h
      · exact hno t (by omega)
    rw [ob] at yes no
    generalize nt (colAt L i) v = w at *
    by_cases g1 : w < a
    · rw [yes (by simp [g1])]
      generalize colsT L = X at *
      simp [b_out_at_0, e3, g1]
    · by_cases g2 : b < w
      · rw [yes (by simp [g2])]
        generalize colsT L = X at *
        simp [b_out_at_0, e3, g1, g2]
      · have fin := no (by simp [g1, g2])
        generalize colsT L = X at *
        simp [b_out_at_0, e3, g1, g2]
        exact fin
  · rintro S ⟨y, z, rfl, hno⟩
    rw [numD_len, colsT_len] at hno
    rw [fst_no hno]
    simp [a_out_at, dropS]
theorem earl_eq (k : Nat) (f : Option (Int × Int)) (p : Option Int) (row : Int) : mir (k + 1) "earlier" [oP f, oD p, .int row] = .ok (.d (oP (earl f p row))) := by
  refine (mirN_run (d := a_earlier) rfl _).trans ((run_0 rfl).trans ?_)
  cases p with
  | none =>
    show _ = R.ok (Val.d (oP f))
    cases f <;> simp [a_earlier, oP]
  | some x =>
    cases f with
    | none =>
      show _ = R.ok (Val.d (.tup [.int x, .int row]))
      simp [a_earlier, oP]
    | some y =>
      have e : earl (some y) (some x) row = if x < y.1 then some (x, row) else some y := rfl
      rw [e]
      by_cases g : x < y.1
      · rw [if_pos g]
        simp [a_earlier, oP, sub_0, g]
      · rw [if_neg g]
        simp [a_earlier, oP, sub_0, g]
theorem fault_eq (k n : Nat) (hn : n ≤ 1000) (rg : Rg) (rs : List Rul) (L : List (List Int)) (hg : rg.length = n) (hr : ∀ r ∈ rs, r.Ok n) (hL : Li L n) : mir (k + 4) "fault" [scoD rg rs, .lst (colsT L)] = .ok (.d (oP (faultV rg rs L))) := by
  refine (mirN_run (d := a_fault) rfl _).trans ((run_0 rfl).trans ?_)
  have f1 : fldD ["Score"] "ranges" (scoD rg rs) = .ok (.lst (rgD rg)) := fld_of (by decide) rfl
  have f2 : fldD ["Score"] "rules" (scoD rg rs) = .ok (.lst (rulD rs)) := fld_of (by decide) rfl
  have body : (exes (mirN defs (k + 3)) a_fault.body [.fz (scoD rg rs), .fz (.lst (colsT L)), .no, .no, .no, .no, .no]) = (forL (.tup [4, 5]) (exes (mirN defs (k + 3)) b_fault_0) (rgD rg) [.fz (scoD rg rs), .fz (.lst (colsT L)), .fz .non, .fz (.int 0), .no, .no, .no]).thn (exes (mirN defs (k + 3)) (dropS 3 a_fault.body)) := by
    generalize scoD rg rs = S at *
    generalize rgD rg = G at *
    generalize colsT L = X at *
    simp [a_fault, dropS, f1]
  have body := congrArg Out.val body
  refine body.trans ?_
  have step : ∀ (Q : List (Nat → Bool)) (q : Nat → Bool), best (Q ++ [q]) 0 (L.length + 1) = earl (best Q 0 (L.length + 1)) (fst q 0 (L.length + 1)) (Q.length : Int) := fun Q q => best_snoc Q q _ 0
  refine for_rule (R := fun o => (o.thn _).val = R.ok (Val.d (oP (faultV rg rs L)))) (fun i S => ∃ y z, S = [.fz (scoD rg rs), .fz (.lst (colsT L)), .fz (oP (best (vRows rg L i) 0 (L.length + 1))), .fz (.int (i : Int)), y, z, .no]) ⟨_, _, by
    have e : best (vRows rg L 0) 0 (L.length + 1) = none := best_no _ 0 fun t _ => rfl
    rw [e]
    rfl⟩ ?_ ?_
  · rintro i x S hx ⟨y, z, rfl⟩
    have hi' : i < rg.length := by
      have := (List.getElem?_eq_some_iff.mp hx).1
      rwa [rgD_len] at this
    rw [rg_at hi'] at hx
    have hx := (Option.some.inj hx).symm
    subst hx
    refine ⟨_, rfl, ?_⟩
    have oe : mir (k + 3) "out_at" [.int (lo rg i), .int (hi rg i), .int (i : Int), .lst (colsT L)] = _ := out_eq (k + 2) n i (lo rg i) (hi rg i) L hL (by omega)
    have er : mir (k + 3) "earlier" [oP (best (vRows rg L i) 0 (L.length + 1)), oD (fst (outB (lo rg i) (hi rg i) i L) 0 L.length), .int (i : Int)] = _ := earl_eq (k + 2) _ _ _
    have st := step (vRows rg L i) (qV (lo rg i) (hi rg i) i L)
    rw [← vRows_succ, vRows_len, fst_qV] at st
    rw [← st] at er
    have fin : (.fz (.int ((i : Int) + 1)) : Sl) = .fz (.int ((i + 1 : Nat) : Int)) := rfl
    generalize oP (best (vRows rg L (i + 1)) 0 (L.length + 1)) = b2 at *
    generalize oP (best (vRows rg L i) 0 (L.length + 1)) = b1 at *
    generalize fst (outB (lo rg i) (hi rg i) i L) 0 L.length = p at *
    generalize oD p = pd at *
    generalize lo rg i = a at *
    generalize hi rg i = b at *
    generalize scoD rg rs = S at *
    generalize colsT L = X at *
    simp [b_fault_0, oe, er]
  · rintro S ⟨y, z, rfl⟩
    rw [rgD_len]
    have body2 : (exes (mirN defs (k + 3)) (dropS 3 a_fault.body) [.fz (scoD rg rs), .fz (.lst (colsT L)), .fz (oP (best (vRows rg L rg.length) 0 (L.length + 1))), .fz (.int (rg.length : Int)), y, z, .no]) = (forL (.one 6) (exes (mirN defs (k + 3)) b_fault_1) (rulD rs) [.fz (scoD rg rs), .fz (.lst (colsT L)), .fz (oP (best (vRows rg L rg.length) 0 (L.length + 1))), .fz (.int (rg.length : Int)), y, z, .no]).thn (exes (mirN defs (k + 3)) (dropS 4 a_fault.body)) := by
      generalize oP (best (vRows rg L rg.length) 0 (L.length + 1)) = b1 at *
      generalize scoD rg rs = S at *
      generalize rulD rs = G at *
      generalize colsT L = X at *
      simp [a_fault, dropS, f2]
    rw [thn_nx, body2]
    refine for_rule (R := fun o => (o.thn _).val = R.ok (Val.d (oP (faultV rg rs L)))) (fun i S => ∃ w, S = [.fz (scoD rg rs), .fz (.lst (colsT L)), .fz (oP (best (vRows rg L rg.length ++ rRows (rs.take i) L) 0 (L.length + 1))), .fz (.int ((rg.length + i : Nat) : Int)), y, z, w]) ⟨_, by
      have e : vRows rg L rg.length ++ rRows (rs.take 0) L = vRows rg L rg.length := List.append_nil _
      rw [e]
      rfl⟩ ?_ ?_
    · rintro i x S hx ⟨w, rfl⟩
      have hi' : i < rs.length := by
        have := (List.getElem?_eq_some_iff.mp hx).1
        rwa [rulD_len] at this
      rw [rulD_at hi'] at hx
      have hx := (Option.some.inj hx).symm
      subst hx
      refine ⟨_, rfl, ?_⟩
      have ok := hr _ (List.getElem_mem hi')
      have be : mir (k + 3) "broken_at" [rs[i].d, .lst (colsT L)] = _ := broken_eq k n rs[i] ok L fun c hc => (hL.ok c hc).len
      rw [key hn ok L, ← fst_qR] at be
      have er : mir (k + 3) "earlier" [oP (best (vRows rg L rg.length ++ rRows (rs.take i) L) 0 (L.length + 1)), oD (fst (qR rs[i] L) 0 (L.length + 1)), .int ((rg.length + i : Nat) : Int)] = _ := earl_eq (k + 2) _ _ _
      have st := step (vRows rg L rg.length ++ rRows (rs.take i) L) (qR rs[i] L)
      have ln : (vRows rg L rg.length ++ rRows (rs.take i) L).length = rg.length + i := by
        unfold rRows
        rw [List.length_append, vRows_len, List.length_map, List.length_take]
        omega
      rw [List.append_assoc, ← rRows_succ rs L hi', ln] at st
      rw [← st] at er
      have e1 : ((rg.length + (i + 1) : Nat) : Int) = ((rg.length + i : Nat) : Int) + 1 := by omega
      rw [e1]
      generalize ((rg.length + i : Nat) : Int) = ii at *
      generalize oP (best (vRows rg L rg.length ++ rRows (rs.take (i + 1)) L) 0 (L.length + 1)) = b2 at *
      generalize oP (best (vRows rg L rg.length ++ rRows (rs.take i) L) 0 (L.length + 1)) = b1 at *
      generalize fst (qR rs[i] L) 0 (L.length + 1) = p at *
      generalize oD p = pd at *
      generalize rs[i].d = rd at *
      generalize scoD rg rs = S at *
      generalize colsT L = X at *
      simp [b_fault_1, be, er]
    · rintro S ⟨w, rfl⟩
      rw [rulD_len, List.take_length]
      have e : best (vRows rg L rg.length ++ rRows rs L) 0 (L.length + 1) = faultV rg rs L := rfl
      rw [e]
      generalize oP (faultV rg rs L) = b1 at *
      generalize scoD rg rs = S at *
      simp [a_fault, dropS]
end Lk23
end
section
set_option maxHeartbeats 1000000
namespace Lk23
open Fv
theorem sz_span (k : Nat) (a b : Nat) (s : List Int) : mir (k + 1) "_law_size" [.lst (rowD (Rul.span a b s))] = .ok (.d (.int (Rul.span a b s).size)) := by
  refine (mirN_run (d := a_l_size) rfl _).trans ((run_0 rfl).trans ?_)
  have k0 : subD (.lst (rowD (Rul.span a b s))) (.int 0) = .ok (.str wSpan) := row_0 (Rul.span a b s)
  have q_back := w_ne wSpan [98, 97, 99, 107] rfl
  have q_held := w_ne wSpan [104, 101, 108, 100] rfl
  have q_times := w_ne wSpan [116, 105, 109, 101, 115] rfl
  have q_every := w_ne wSpan [101, 118, 101, 114, 121] rfl
  have hz : (Rul.span a b s).size = 1 := rfl
  rw [hz]
  generalize wSpan = ww at *
  generalize rowD (Rul.span a b s) = W at *
  simp [a_l_size, k0, q_back, q_held, q_times, q_every]
theorem sz_clock (k : Nat) (a b : Nat) (m : Int) (s : List Int) : mir (k + 1) "_law_size" [.lst (rowD (Rul.clock a b m s))] = .ok (.d (.int (Rul.clock a b m s).size)) := by
  refine (mirN_run (d := a_l_size) rfl _).trans ((run_0 rfl).trans ?_)
  have k0 : subD (.lst (rowD (Rul.clock a b m s))) (.int 0) = .ok (.str wClock) := row_0 (Rul.clock a b m s)
  have q_back := w_ne wClock [98, 97, 99, 107] rfl
  have q_held := w_ne wClock [104, 101, 108, 100] rfl
  have q_times := w_ne wClock [116, 105, 109, 101, 115] rfl
  have q_every := w_ne wClock [101, 118, 101, 114, 121] rfl
  have hz : (Rul.clock a b m s).size = 1 := rfl
  rw [hz]
  generalize wClock = ww at *
  generalize rowD (Rul.clock a b m s) = W at *
  simp [a_l_size, k0, q_back, q_held, q_times, q_every]
theorem sz_move (k : Nat) (v : Nat) (s : List Int) : mir (k + 1) "_law_size" [.lst (rowD (Rul.move v s))] = .ok (.d (.int (Rul.move v s).size)) := by
  refine (mirN_run (d := a_l_size) rfl _).trans ((run_0 rfl).trans ?_)
  have k0 : subD (.lst (rowD (Rul.move v s))) (.int 0) = .ok (.str wMove) := row_0 (Rul.move v s)
  have q_back := w_ne wMove [98, 97, 99, 107] rfl
  have q_held := w_ne wMove [104, 101, 108, 100] rfl
  have q_times := w_ne wMove [116, 105, 109, 101, 115] rfl
  have q_every := w_ne wMove [101, 118, 101, 114, 121] rfl
  have hz : (Rul.move v s).size = 1 := rfl
  rw [hz]
  generalize wMove = ww at *
  generalize rowD (Rul.move v s) = W at *
  simp [a_l_size, k0, q_back, q_held, q_times, q_every]
theorem sz_alike (k : Nat) (a b : Nat) (s : List Int) : mir (k + 1) "_law_size" [.lst (rowD (Rul.alike a b s))] = .ok (.d (.int (Rul.alike a b s).size)) := by
  refine (mirN_run (d := a_l_size) rfl _).trans ((run_0 rfl).trans ?_)
  have k0 : subD (.lst (rowD (Rul.alike a b s))) (.int 0) = .ok (.str wAlike) := row_0 (Rul.alike a b s)
  have q_back := w_ne wAlike [98, 97, 99, 107] rfl
  have q_held := w_ne wAlike [104, 101, 108, 100] rfl
  have q_times := w_ne wAlike [116, 105, 109, 101, 115] rfl
  have q_every := w_ne wAlike [101, 118, 101, 114, 121] rfl
  have hz : (Rul.alike a b s).size = 1 := rfl
  rw [hz]
  generalize wAlike = ww at *
  generalize rowD (Rul.alike a b s) = W at *
  simp [a_l_size, k0, q_back, q_held, q_times, q_every]
theorem sz_back (k : Nat) (v : Nat) (d : Int) : mir (k + 1) "_law_size" [.lst (rowD (Rul.back v d))] = .ok (.d (.int (Rul.back v d).size)) := by
  refine (mirN_run (d := a_l_size) rfl _).trans ((run_0 rfl).trans ?_)
  have k0 : subD (.lst (rowD (Rul.back v d))) (.int 0) = .ok (.str wBack) := row_0 (Rul.back v d)
  have q_back := w_is wBack [98, 97, 99, 107] rfl
  have hz : (Rul.back v d).size = 3 := rfl
  rw [hz]
  generalize wBack = ww at *
  generalize rowD (Rul.back v d) = W at *
  simp [a_l_size, k0, q_back]
theorem sz_held (k : Nat) (v : Nat) (m : Int) : mir (k + 1) "_law_size" [.lst (rowD (Rul.held v m))] = .ok (.d (.int (Rul.held v m).size)) := by
  refine (mirN_run (d := a_l_size) rfl _).trans ((run_0 rfl).trans ?_)
  have k0 : subD (.lst (rowD (Rul.held v m))) (.int 0) = .ok (.str wHeld) := row_0 (Rul.held v m)
  have n2 : subD (.lst (rowD (Rul.held v m))) (.int 2) = .ok (.int (m)) := sub_row (k := ((Rul.held v m)).kind) (is := ((Rul.held v m)).nums) (i := 1) rfl
  have q_back := w_ne wHeld [98, 97, 99, 107] rfl
  have q_held := w_is wHeld [104, 101, 108, 100] rfl
  have hz : (Rul.held v m).size = m := rfl
  rw [hz]
  generalize wHeld = ww at *
  generalize rowD (Rul.held v m) = W at *
  simp [a_l_size, k0, n2, q_back, q_held]
theorem sz_times (k : Nat) (v : Nat) (x lo hi : Int) : mir (k + 1) "_law_size" [.lst (rowD (Rul.times v x lo hi))] = .ok (.d (.int (Rul.times v x lo hi).size)) := by
  refine (mirN_run (d := a_l_size) rfl _).trans ((run_0 rfl).trans ?_)
  have k0 : subD (.lst (rowD (Rul.times v x lo hi))) (.int 0) = .ok (.str wTimes) := row_0 (Rul.times v x lo hi)
  have n4 : subD (.lst (rowD (Rul.times v x lo hi))) (.int 4) = .ok (.int (hi)) := sub_row (k := ((Rul.times v x lo hi)).kind) (is := ((Rul.times v x lo hi)).nums) (i := 3) rfl
  have q_back := w_ne wTimes [98, 97, 99, 107] rfl
  have q_held := w_ne wTimes [104, 101, 108, 100] rfl
  have q_times := w_is wTimes [116, 105, 109, 101, 115] rfl
  have hz : (Rul.times v x lo hi).size = hi + 1 := rfl
  rw [hz]
  generalize wTimes = ww at *
  generalize rowD (Rul.times v x lo hi) = W at *
  simp [a_l_size, k0, n4, q_back, q_held, q_times]
theorem sz_begin (k : Nat) (v : Nat) (s : List Int) : mir (k + 1) "_law_size" [.lst (rowD (Rul.begin v s))] = .ok (.d (.int (Rul.begin v s).size)) := by
  refine (mirN_run (d := a_l_size) rfl _).trans ((run_0 rfl).trans ?_)
  have k0 : subD (.lst (rowD (Rul.begin v s))) (.int 0) = .ok (.str wBegin) := row_0 (Rul.begin v s)
  have q_back := w_ne wBegin [98, 97, 99, 107] rfl
  have q_held := w_ne wBegin [104, 101, 108, 100] rfl
  have q_times := w_ne wBegin [116, 105, 109, 101, 115] rfl
  have q_every := w_ne wBegin [101, 118, 101, 114, 121] rfl
  have hz : (Rul.begin v s).size = 1 := rfl
  rw [hz]
  generalize wBegin = ww at *
  generalize rowD (Rul.begin v s) = W at *
  simp [a_l_size, k0, q_back, q_held, q_times, q_every]
theorem sz_close (k : Nat) (v : Nat) (s : List Int) : mir (k + 1) "_law_size" [.lst (rowD (Rul.close v s))] = .ok (.d (.int (Rul.close v s).size)) := by
  refine (mirN_run (d := a_l_size) rfl _).trans ((run_0 rfl).trans ?_)
  have k0 : subD (.lst (rowD (Rul.close v s))) (.int 0) = .ok (.str wClose) := row_0 (Rul.close v s)
  have q_back := w_ne wClose [98, 97, 99, 107] rfl
  have q_held := w_ne wClose [104, 101, 108, 100] rfl
  have q_times := w_ne wClose [116, 105, 109, 101, 115] rfl
  have q_every := w_ne wClose [101, 118, 101, 114, 121] rfl
  have hz : (Rul.close v s).size = 1 := rfl
  rw [hz]
  generalize wClose = ww at *
  generalize rowD (Rul.close v s) = W at *
  simp [a_l_size, k0, q_back, q_held, q_times, q_every]
theorem sz_every (k : Nat) (m a : Int) (r : Rul) : mir (k + 1) "_law_size" [.lst (rowD (Rul.every m a r))] = .ok (.d (.int (Rul.every m a r).size)) := by
  refine (mirN_run (d := a_l_size) rfl _).trans ((run_0 rfl).trans ?_)
  have k0 : subD (.lst (rowD (Rul.every m a r))) (.int 0) = .ok (.str wEvery) := row_0 (Rul.every m a r)
  have n1 : subD (.lst (rowD (Rul.every m a r))) (.int 1) = .ok (.int m) := sub_lst (i := 1) rfl
  have q_back := w_ne wEvery [98, 97, 99, 107] rfl
  have q_held := w_ne wEvery [104, 101, 108, 100] rfl
  have q_times := w_ne wEvery [116, 105, 109, 101, 115] rfl
  have q_every := w_is wEvery [101, 118, 101, 114, 121] rfl
  have hz : (Rul.every m a r).size = m := rfl
  rw [hz]
  generalize wEvery = ww at *
  generalize rowD (Rul.every m a r) = W at *
  simp [a_l_size, k0, n1, q_back, q_held, q_times, q_every]
theorem lsize_eq (k : Nat) (r : Rul) : mir (k + 1) "_law_size" [.lst (rowD r)] = .ok (.d (.int r.size)) := by
  cases r with
  | span a b s => exact sz_span k a b s
  | clock a b m s => exact sz_clock k a b m s
  | move v s => exact sz_move k v s
  | alike a b s => exact sz_alike k a b s
  | back v d => exact sz_back k v d
  | held v m => exact sz_held k v m
  | times v x lo hi => exact sz_times k v x lo hi
  | begin v s => exact sz_begin k v s
  | close v s => exact sz_close k v s
  | every m a r => exact sz_every k m a r

theorem mod_nat {n : Nat} (h : 0 < n) (z : Int) : ∃ a : Nat, z % (n : Int) = (a : Int) ∧ a < n := by
  have h1 := Int.emod_nonneg z (show (n : Int) ≠ 0 by omega)
  have h2 := Int.emod_lt_of_pos z (show (0 : Int) < (n : Int) by omega)
  exact ⟨(z % (n : Int)).toNat, by omega, by omega⟩
theorem lo_old {rg : Rg} {p : Int × Int} {i : Nat} (h : i < rg.length) : lo (rg ++ [p]) i = lo rg i := by
  unfold lo
  rw [List.getD_eq_getElem?_getD, List.getD_eq_getElem?_getD, List.getElem?_append_left h]
theorem hi_old {rg : Rg} {p : Int × Int} {i : Nat} (h : i < rg.length) : hi (rg ++ [p]) i = hi rg i := by
  unfold hi
  rw [List.getD_eq_getElem?_getD, List.getD_eq_getElem?_getD, List.getElem?_append_left h]
theorem lo_new (rg : Rg) (p : Int × Int) : lo (rg ++ [p]) rg.length = p.1 := by
  unfold lo
  rw [List.getD_eq_getElem?_getD, List.getElem?_append_right (Nat.le_refl _), Nat.sub_self]
  rfl
theorem hi_new (rg : Rg) (p : Int × Int) : hi (rg ++ [p]) rg.length = p.2 := by
  unfold hi
  rw [List.getD_eq_getElem?_getD, List.getElem?_append_right (Nat.le_refl _), Nat.sub_self]
  rfl
/-- ranges about one far note -/
structure RgF (f : Int) (rg : Rg) : Prop where
  f0 : f = 0 ∨ f = 100000000000000000000
  at_ : ∀ i, i < rg.length → f - 42 ≤ lo rg i ∧ lo rg i ≤ f + 42 ∧ lo rg i ≤ hi rg i ∧ hi rg i ≤ lo rg i + 3
theorem RgF.snoc {f : Int} {rg : Rg} (h : RgF f rg) {a b : Int} (g : f - 42 ≤ a ∧ a ≤ f + 42 ∧ a ≤ b ∧ b ≤ a + 3) : RgF f (rg ++ [(a, b)]) := ⟨h.f0, fun i hi' => by
  rw [List.length_append, List.length_singleton] at hi'
  by_cases c : i < rg.length
  · rw [lo_old c, hi_old c]
    exact h.at_ i c
  · rw [show i = rg.length from by omega, lo_new, hi_new]
    exact g⟩
theorem ranges_eq (k : Nat) {ns : List Int} (h : Sc ns) : ∃ f rg, mir (k + 3) "_law_ranges" [.scr ns] = .ok (.fr (rgD rg)) ∧ RgF f rg ∧ 1 ≤ rg.length ∧ rg.length ≤ 4 := by
  have e : mir (k + 3) "_law_ranges" [.scr ns] = _ := (mirN_run (d := a_l_ranges) rfl _).trans (run_0 rfl)
  rw [e]
  have gt : ∀ p : Nat, p < 1000000 → mirN defs (k + 2) "_law_got" [.scr ns, .int p] = .ok (.d (.int (gotV ns p))) := fun p hp => (got_eq rfl rfl k hp h).1
  have g0 : mirN defs (k + 2) "_law_got" [.scr ns, .int 0] = _ := gt 0 (by decide)
  generalize gotV ns 0 = c at g0
  obtain ⟨f, hf, ef⟩ : ∃ f : Int, (f = 0 ∨ f = 100000000000000000000) ∧ subD (.lst [.int 0, .int 100000000000000000000, .int 0, .int 0]) (.int (c / 4 % 4)) = .ok (.int f) := by
    rcases (show c / 4 % 4 = 0 ∨ c / 4 % 4 = 1 ∨ c / 4 % 4 = 2 ∨ c / 4 % 4 = 3 by omega) with h | h | h | h <;> rw [h]
    · exact ⟨0, .inl rfl, rfl⟩
    · exact ⟨100000000000000000000, .inr rfl, rfl⟩
    · exact ⟨0, .inl rfl, rfl⟩
    · exact ⟨0, .inl rfl, rfl⟩
  obtain ⟨n, hn, hn4⟩ : ∃ n : Nat, 1 + c % 4 = (n : Int) ∧ 1 ≤ n ∧ n ≤ 4 := ⟨(1 + c % 4).toNat, by omega, by omega, by omega⟩
  have rr : rngD 0 (n : Int) = _ := rng_n (by omega)
  have st0 : exes (mirN defs (k + 2)) a_l_ranges.body [.fz (.scr ns), .no, .no, .no, .no, .no, .no] = (forL (.one 4) (exes (mirN defs (k + 2)) b_l_ranges_0) ((List.range n).map fun i => .int (i : Nat)) [.fz (.scr ns), .fz (.int c), .fz (.int f), .own [], .no, .no, .no]).thn (exes (mirN defs (k + 2)) (dropS 5 a_l_ranges.body)) := by
    simp [a_l_ranges, dropS, g0, ef, hn, rr]
  show ∃ f rg, (exes (mirN defs (k + 2)) a_l_ranges.body [.fz (.scr ns), .no, .no, .no, .no, .no, .no]).val = _ ∧ _
  rw [st0]
  refine for_rule (R := fun o => ∃ f rg, (o.thn _).val = R.ok (Val.fr (rgD rg)) ∧ RgF f rg ∧ 1 ≤ rg.length ∧ rg.length ≤ 4) (fun i S => ∃ rg x y z, S = [.fz (.scr ns), .fz (.int c), .fz (.int f), .own (rgD rg), x, y, z] ∧ RgF f rg ∧ rg.length = i ∧ (0 < i → f - 40 ≤ lo rg 0 ∧ lo rg 0 ≤ f + 40)) ⟨[], _, _, _, rfl, ⟨hf, fun _ h => absurd h (Nat.not_lt_zero _)⟩, rfl, fun h => absurd h (Nat.lt_irrefl _)⟩ ?_ ?_
  · rintro i x S hx ⟨rg, x, y, z, rfl, hr, hl, h0⟩
    obtain ⟨hi', rfl⟩ := rng_get hx
    refine ⟨_, rfl, ?_⟩
    have g1 : mirN defs (k + 2) "_law_got" [.scr ns, .int (1 + (i : Int))] = _ := gt (1 + i) (by omega)
    generalize gotV ns (1 + i) = d at g1
    have ll : (rgD rg).length < 16777216 := by rw [rgD_len]; omega
    by_cases q1 : d / 324 % 2 = 0
    · by_cases q2 : 0 < i
      · have h0 := h0 q2
        have sb : subD (.lst (rgD rg)) (.int 0) = .ok (.tup [.int (lo rg 0), .int (hi rg 0)]) := sub_rg (t := 0) (show 0 < rg.length by omega)
        have sn := rgD_snoc rg (lo rg 0 + d / 4 % 5 - 2, lo rg 0 + d / 4 % 5 - 2 + d % 4)
        have hz : f - 42 ≤ lo rg 0 + d / 4 % 5 - 2 ∧ lo rg 0 + d / 4 % 5 - 2 ≤ f + 42 ∧ lo rg 0 + d / 4 % 5 - 2 ≤ lo rg 0 + d / 4 % 5 - 2 + d % 4 ∧ lo rg 0 + d / 4 % 5 - 2 + d % 4 ≤ lo rg 0 + d / 4 % 5 - 2 + 3 := by omega
        have h2 := hr.snoc hz
        have h3 : f - 40 ≤ lo (rg ++ [(lo rg 0 + d / 4 % 5 - 2, lo rg 0 + d / 4 % 5 - 2 + d % 4)]) 0 ∧ lo (rg ++ [(lo rg 0 + d / 4 % 5 - 2, lo rg 0 + d / 4 % 5 - 2 + d % 4)]) 0 ≤ f + 40 := by rw [lo_old (show 0 < rg.length by omega)]; exact h0
        have h4 : (rg ++ [(lo rg 0 + d / 4 % 5 - 2, lo rg 0 + d / 4 % 5 - 2 + d % 4)]).length = i + 1 := by rw [List.length_append, hl]; rfl
        have fin : ∃ rg', rgD rg' = rgD rg ++ [.tup [.int (lo rg 0 + d / 4 % 5 - 2), .int (lo rg 0 + d / 4 % 5 - 2 + d % 4)]] ∧ RgF f rg' ∧ rg'.length = i + 1 ∧ (f - 40 ≤ lo rg' 0 ∧ lo rg' 0 ≤ f + 40) := ⟨_, sn.symm, h2, h4, h3⟩
        clear sn h2 h3 h4
        generalize rgD rg = G at *
        generalize lo rg 0 = l0 at *
        obtain ⟨rg', e1, e2, e3, e4⟩ := fin
        simp [b_l_ranges_0, g1, q1, q2, sb, sub_0, ll]
        exact ⟨rg', e1.symm, e2, e3, e4⟩
      · have i0 : i = 0 := by omega
        subst i0
        have r0 : rg = [] := List.length_eq_zero_iff.mp hl
        subst r0
        have g1 : mirN defs (k + 2) "_law_got" [.scr ns, .int 1] = _ := g1
        have hz : f - 42 ≤ f + d / 4 % 81 - 40 ∧ f + d / 4 % 81 - 40 ≤ f + 42 ∧ f + d / 4 % 81 - 40 ≤ f + d / 4 % 81 - 40 + d % 4 ∧ f + d / 4 % 81 - 40 + d % 4 ≤ f + d / 4 % 81 - 40 + 3 := by omega
        have h2 := hr.snoc hz
        have e0 : rgD [] = [] := rfl
        simp [b_l_ranges_0, g1, q1, e0]
        exact ⟨_, rfl, h2, rfl, show f - 40 ≤ f + d / 4 % 81 - 40 by omega, show f + d / 4 % 81 - 40 ≤ f + 40 by omega⟩
    · have sn := rgD_snoc rg (f + d / 4 % 81 - 40, f + d / 4 % 81 - 40 + d % 4)
      have hz : f - 42 ≤ f + d / 4 % 81 - 40 ∧ f + d / 4 % 81 - 40 ≤ f + 42 ∧ f + d / 4 % 81 - 40 ≤ f + d / 4 % 81 - 40 + d % 4 ∧ f + d / 4 % 81 - 40 + d % 4 ≤ f + d / 4 % 81 - 40 + 3 := by omega
      have h2 := hr.snoc hz
      have h3 : f - 40 ≤ lo (rg ++ [(f + d / 4 % 81 - 40, f + d / 4 % 81 - 40 + d % 4)]) 0 ∧ lo (rg ++ [(f + d / 4 % 81 - 40, f + d / 4 % 81 - 40 + d % 4)]) 0 ≤ f + 40 := by
        by_cases q2 : 0 < i
        · rw [lo_old (show 0 < rg.length by omega)]; exact h0 q2
        · have r0 : rg = [] := List.length_eq_zero_iff.mp (by omega)
          subst r0
          exact ⟨show f - 40 ≤ f + d / 4 % 81 - 40 by omega, show f + d / 4 % 81 - 40 ≤ f + 40 by omega⟩
      have h4 : (rg ++ [(f + d / 4 % 81 - 40, f + d / 4 % 81 - 40 + d % 4)]).length = i + 1 := by rw [List.length_append, hl]; rfl
      have fin : ∃ rg', rgD rg' = rgD rg ++ [.tup [.int (f + d / 4 % 81 - 40), .int (f + d / 4 % 81 - 40 + d % 4)]] ∧ RgF f rg' ∧ rg'.length = i + 1 ∧ (f - 40 ≤ lo rg' 0 ∧ lo rg' 0 ≤ f + 40) := ⟨_, sn.symm, h2, h4, h3⟩
      clear sn h2 h3 h4
      generalize rgD rg = G at *
      obtain ⟨rg', e1, e2, e3, e4⟩ := fin
      simp [b_l_ranges_0, g1, q1, ll]
      exact ⟨rg', e1.symm, e2, e3, e4⟩
  · rintro S ⟨rg, x, y, z, rfl, hr, hl, h0⟩
    rw [List.length_map, List.length_range] at hl
    exact ⟨f, rg, by simp [a_l_ranges, dropS], hr, by omega, by omega⟩
theorem clb_intsD (p : List Int) : clb (.lst (intsD p)) = true := by
  show (intsD p).all (D.cl 4) = true
  rw [List.all_eq_true]
  intro x hx
  obtain ⟨c, _, rfl⟩ := List.mem_map.mp hx
  rfl
theorem eq_ints_nil (l : List Int) : cmpD .eq (.lst (intsD l)) (.lst []) = .ok (decide (l = [])) := by
  rw [eq_lst (clb_intsD l) rfl]
  congr 1
  refine decide_eq_decide.mpr ⟨fun h => ?_, fun h => by rw [h]; rfl⟩
  cases l with
  | nil => rfl
  | cons a r => cases h
theorem lsome_eq (k : Nat) (L : List Int) (c : Int) (h1 : 1 ≤ L.length) (h2 : L.length ≤ 40) : ∃ s, mir (k + 1) "_law_some" [.lst (intsD L), .int c] = .ok (.fr (intsD s)) ∧ 1 ≤ s.length ∧ s.length ≤ 12 ∧ ∀ x ∈ s, x ∈ L := by
  have e : mir (k + 1) "_law_some" [.lst (intsD L), .int c] = _ := (mirN_run (d := a_l_some) rfl _).trans (run_0 rfl)
  rw [e]
  have rr : rngD 0 (L.length : Int) = _ := rng_n (by omega)
  have ll : ((intsD L).length : Int) = (L.length : Int) := by rw [intsD_len]
  have st0 : exes (mirN defs k) a_l_some.body [.fz (.lst (intsD L)), .fz (.int c), .no, .no, .no, .no] = (forL (.one 4) (exes (mirN defs k) b_l_some_0) ((List.range L.length).map fun i => .int (i : Nat)) [.fz (.lst (intsD L)), .fz (.int c), .own [], .fz (.int (c / 2)), .no, .no]).thn (exes (mirN defs k) (dropS 3 a_l_some.body)) := by
    generalize intsD L = G at *
    simp [a_l_some, dropS, ll, rr]
  show ∃ s, (exes (mirN defs k) a_l_some.body [.fz (.lst (intsD L)), .fz (.int c), .no, .no, .no, .no]).val = _ ∧ _
  rw [st0]
  refine for_rule (R := fun o => ∃ s, (o.thn _).val = R.ok (Val.fr (intsD s)) ∧ 1 ≤ s.length ∧ s.length ≤ 12 ∧ ∀ x ∈ s, x ∈ L) (fun i S => ∃ s r x y, S = [.fz (.lst (intsD L)), .fz (.int c), .own (intsD s), .fz (.int r), x, y] ∧ s.length ≤ i ∧ ∀ x ∈ s, x ∈ L) ⟨[], _, _, _, rfl, Nat.le_refl _, fun _ h => nomatch h⟩ ?_ ?_
  · rintro i x S hx ⟨s, r, x, y, rfl, hs, hm⟩
    obtain ⟨hi', rfl⟩ := rng_get hx
    refine ⟨_, rfl, ?_⟩
    have sb := sub_lst (intsD_at (c := L) (i := i) hi')
    have fin1 : ∃ s', intsD s' = intsD s ++ [.int L[i]] ∧ s'.length ≤ i + 1 ∧ ∀ x ∈ s', x ∈ L := ⟨s ++ [L[i]], (intsD_snoc s L[i]).symm, by rw [List.length_append, List.length_singleton]; omega, fun x hx => by
      rcases List.mem_append.mp hx with hx | hx
      · exact hm x hx
      · rw [List.mem_singleton.mp hx]; exact List.getElem_mem _⟩
    have fin0 : ∃ s', intsD s' = intsD s ∧ s'.length ≤ i + 1 ∧ ∀ x ∈ s', x ∈ L := ⟨s, rfl, by omega, hm⟩
    have sl : (intsD s).length < 16777216 := by rw [intsD_len]; omega
    obtain ⟨w, hw⟩ : ∃ w : Int, L[i] = w := ⟨_, rfl⟩
    rw [hw] at sb fin1
    generalize intsD s = G at *
    generalize intsD L = H at *
    have ib : 0 ≤ (i : Int) ∧ (i : Int) < 40 := by omega
    have ii : 0 ≤ (i : Int) * (i : Int) ∧ (i : Int) * (i : Int) ≤ 1600 := ⟨Int.mul_nonneg ib.1 ib.1, by
      have h1 : (i : Int) * (i : Int) ≤ 40 * (i : Int) := Int.mul_le_mul_of_nonneg_right (by omega) ib.1
      omega⟩
    have m1 := mul_sm (i := (i : Int)) (j := (i : Int)) (by omega) (by omega)
    have m2 := mul_sm (i := 5) (j := (i : Int)) (by omega) (by omega)
    have c7 : 0 ≤ c / 2 % 10007 ∧ c / 2 % 10007 < 10007 := ⟨Int.emod_nonneg _ (by decide), Int.emod_lt_of_pos _ (by decide)⟩
    have m3 := mul_sm (i := c / 2 % 10007) (j := (i : Int) * (i : Int) + 5 * (i : Int) + 3) (by omega) (by omega)
    obtain ⟨s1, e1, e2, e3⟩ := fin1
    obtain ⟨s0, z1, z2, z3⟩ := fin0
    generalize (i : Int) = z at *
    by_cases g : c % 2 = 1
    · obtain ⟨t, ht⟩ : ∃ t : Int, c / 2 % 10007 * (z * z + 5 * z + 3) / 7 % 4 = t := ⟨_, rfl⟩
      by_cases q : 0 < t
      · simp [b_l_some_0, g, m1, m2, m3, ht, q, sb, sl]
        exact ⟨s1, e1.symm, e2, e3⟩
      · simp [b_l_some_0, g, m1, m2, m3, ht, q]
        exact ⟨s0, z1.symm, z2, z3⟩
    · obtain ⟨t, ht⟩ : ∃ t : Int, r % 2 = t := ⟨_, rfl⟩
      by_cases q : 0 < t
      · simp [b_l_some_0, g, ht, q, sb, sl]
        exact ⟨s1, e1.symm, e2, e3⟩
      · simp [b_l_some_0, g, ht, q]
        exact ⟨s0, z1.symm, z2, z3⟩
  · rintro S ⟨s, r, x, y, rfl, hs, hm⟩
    rw [List.length_map, List.length_range] at hs
    have eq := eq_ints_nil s
    by_cases q : s = []
    · subst q
      obtain ⟨w, sb, hw⟩ : ∃ w, subD (.lst (intsD L)) (.int 0) = .ok (.int w) ∧ w ∈ L := ⟨L[0], sub_lst (intsD_at (c := L) (i := 0) (by omega)), List.getElem_mem _⟩
      rw [decide_eq_true rfl] at eq
      refine ⟨[w], ?_, Nat.le_refl _, show (1 : Nat) ≤ 12 by decide, fun x hx => by rw [List.mem_singleton.mp hx]; exact hw⟩
      have e0 : intsD [w] = [.int w] := rfl
      rw [e0]
      clear st0 e rr
      generalize intsD [] = G0 at *
      generalize intsD L = G at *
      simp [a_l_some, dropS, eq, sb]
    · rw [decide_eq_false q] at eq
      have sl : slcD (.lst (intsD s)) none (some 12) = .ok (.fr (intsD (s.take 12))) := by rw [← intsD_take]; exact slc_lst_to (n := 12)
      refine ⟨s.take 12, ?_, ?_, ?_, fun x hx => hm x (List.mem_of_mem_take hx)⟩
      · generalize intsD (s.take 12) = G0 at *
        generalize intsD s = G1 at *
        generalize intsD L = G at *
        simp [a_l_some, dropS, eq, sl]
      · rw [List.length_take]
        have := List.length_pos_iff.mpr q
        omega
      · rw [List.length_take]
        omega

theorem lrg_ints {i j : Int} (h : (j - i).toNat ≤ 16777216) : lrgD i j = .ok (.fr (intsD (rngL i (j - i).toNat))) := by
  unfold lrgD
  rw [if_pos h]
  unfold intsD rngL
  rw [List.map_map]
  rfl
theorem rngL_mem {a x : Int} {n : Nat} (h : x ∈ rngL a n) : a ≤ x ∧ x < a + (n : Int) := by
  unfold rngL at h
  obtain ⟨i, hi', rfl⟩ := List.mem_map.mp h
  have := List.mem_range.mp hi'
  omega
theorem rngL_length (a : Int) (n : Nat) : (rngL a n).length = n := by unfold rngL; rw [List.length_map, List.length_range]
def spansL (rg : Rg) (a b : Nat) : List Int := rngL (lo rg b - hi rg a) (hi rg b - lo rg a + 1 - (lo rg b - hi rg a)).toNat
theorem spans_eq (k : Nat) {f : Int} {rg : Rg} (hf : RgF f rg) {a b : Nat} (ha : a < rg.length) (hb : b < rg.length) : mir (k + 1) "_law_spans" [.lst (rgD rg), .int (a : Int), .int (b : Int)] = .ok (.fr (intsD (spansL rg a b))) := by
  refine (mirN_run (d := a_l_spans) rfl _).trans ((run_0 rfl).trans ?_)
  have sa := sub_rg ha
  have sb := sub_rg hb
  have e := lrg_ints (i := lo rg b - hi rg a) (j := hi rg b - lo rg a + 1) (by have := hf.at_ a ha; have := hf.at_ b hb; omega)
  have e : lrgD (lo rg b - hi rg a) (hi rg b - lo rg a + 1) = .ok (.fr (intsD (spansL rg a b))) := e
  generalize intsD (spansL rg a b) = X at *
  generalize rgD rg = G at *
  generalize (a : Int) = az at *
  generalize (b : Int) = bz at *
  simp [a_l_spans, sa, sb, sub_0, sub_1, e]
theorem spansL_ok {f : Int} {rg : Rg} (hf : RgF f rg) {a b : Nat} (ha : a < rg.length) (hb : b < rg.length) : 1 ≤ (spansL rg a b).length ∧ (spansL rg a b).length ≤ 40 ∧ ∀ x ∈ spansL rg a b, SmI x := by
  have h1 := hf.at_ a ha
  have h2 := hf.at_ b hb
  refine ⟨by unfold spansL; rw [rngL_length]; omega, by unfold spansL; rw [rngL_length]; omega, fun x hx => ?_⟩
  have := rngL_mem hx
  refine smi_of ?_
  omega
theorem oks_of {L s : List Int} (h : 1 ≤ s.length ∧ s.length ≤ 12 ∧ ∀ x ∈ s, x ∈ L) (g : ∀ x ∈ L, SmI x) : OkS s := ⟨h.1, h.2.1, fun i hi' => g i (h.2.2 i hi')⟩
theorem smi_small {x : Int} (h : -1000000000000 ≤ x ∧ x ≤ 1000000000000) : SmI x := smi_of (by omega)
theorem single_eq (k : Nat) {f : Int} {rg : Rg} (hf : RgF f rg) (h1 : 1 ≤ rg.length) (h4 : rg.length ≤ 4) (z c : Int) : ∃ r, mir (k + 2) "_law_single" [.int z, .int c, .lst (rgD rg)] = .ok (.fr (rowD r)) ∧ r.Ok rg.length ∧ rowD r = kindD r.kind r.nums ∧ ∀ m a : Int, (1 ≤ m ∧ SmI m) → (0 ≤ a ∧ a < m) → (Rul.every m a r).Ok rg.length := by
  have e : mir (k + 2) "_law_single" [.int z, .int c, .lst (rgD rg)] = _ := (mirN_run (d := a_l_single) rfl _).trans (run_0 rfl)
  rw [e]
  have ll : ((rgD rg).length : Int) = (rg.length : Int) := by rw [rgD_len]
  have n0 : 0 < rg.length := by omega
  obtain ⟨a, ea, ha⟩ := mod_nat n0 z
  obtain ⟨b, eb, hb⟩ := mod_nat n0 (z / 3)
  have np : (0 : Int) < (rg.length : Int) := by omega
  generalize (rg.length : Int) = nn at ll ea eb np
  by_cases g : z / 9 % 2 = 0
  · obtain ⟨s1, s2, s3⟩ := spansL_ok hf ha hb
    have sp : mirN defs (k + 1) "_law_spans" [.lst (rgD rg), .int (a : Int), .int (b : Int)] = _ := spans_eq k hf ha hb
    obtain ⟨s, so, hs⟩ := lsome_eq k (spansL rg a b) c s1 s2
    have so : mirN defs (k + 1) "_law_some" [.lst (intsD (spansL rg a b)), .int c] = _ := so
    have ok := oks_of hs s3
    have ad : binD .add (.lst [.str [115, 112, 97, 110], .int ((a : Int) + 1), .int ((b : Int) + 1)]) (.lst (intsD s)) = .ok (.fr (rowD (.span a b s))) := add_lst (by rw [intsD_len]; have := ok.hi; simp; omega)
    refine ⟨.span a b s, ?_, ⟨ha, hb, ok⟩, rfl, fun m q h1 h2 => ⟨h1, h2, ha, hb, ok⟩⟩
    generalize rowD (.span a b s) = W at *
    generalize intsD s = G1 at *
    generalize intsD (spansL rg a b) = G2 at *
    generalize (a : Int) = az at *
    generalize (b : Int) = bz at *
    generalize rgD rg = G at *
    simp [a_l_single, ll, np, ea, eb, g, sp, so, ad]
  · obtain ⟨m, hm, hm1⟩ : ∃ m : Int, 1 + z / 18 % 5 = m ∧ 1 ≤ m ∧ m ≤ 5 := ⟨_, rfl, by omega⟩
    have lr := lrg_ints (i := 0) (j := m) (by omega)
    have l1 : 1 ≤ (rngL 0 (m - 0).toNat).length := by rw [rngL_length]; omega
    have l2 : (rngL 0 (m - 0).toNat).length ≤ 40 := by rw [rngL_length]; omega
    have l3 : ∀ x ∈ rngL 0 (m - 0).toNat, SmI x := fun x hx => smi_small (by have := rngL_mem hx; omega)
    obtain ⟨s, so, hs⟩ := lsome_eq k (rngL 0 (m - 0).toNat) c l1 l2
    have so : mirN defs (k + 1) "_law_some" [.lst (intsD (rngL 0 (m - 0).toNat)), .int c] = _ := so
    have ok := oks_of hs l3
    have ad : binD .add (.lst [.str [99, 108, 111, 99, 107], .int ((a : Int) + 1), .int ((b : Int) + 1), .int m]) (.lst (intsD s)) = .ok (.fr (rowD (.clock a b m s))) := add_lst (by rw [intsD_len]; have := ok.hi; simp; omega)
    have hms : 1 ≤ m ∧ SmI m := ⟨hm1.1, smi_small (by omega)⟩
    refine ⟨.clock a b m s, ?_, ⟨ha, hb, hms, ok⟩, rfl, fun q p h1 h2 => ⟨h1, h2, ha, hb, hms, ok⟩⟩
    generalize rowD (.clock a b m s) = W at *
    generalize intsD s = G1 at *
    generalize intsD (rngL 0 (m - 0).toNat) = G2 at *
    generalize (a : Int) = az at *
    generalize (b : Int) = bz at *
    generalize rgD rg = G at *
    simp [a_l_single, ll, np, ea, eb, g, hm, lr, so, ad]
theorem rule_eq (k : Nat) {f : Int} {rg : Rg} (hf : RgF f rg) (h1 : 1 ≤ rg.length) (h4 : rg.length ≤ 4) (z c : Int) : ∃ r, mir (k + 3) "_law_rule" [.int z, .int c, .lst (rgD rg)] = .ok (.fr (rowD r)) ∧ r.Ok rg.length := by
  have e : mir (k + 3) "_law_rule" [.int z, .int c, .lst (rgD rg)] = _ := (mirN_run (d := a_l_rule) rfl _).trans (run_0 rfl)
  rw [e]
  have ll : ((rgD rg).length : Int) = (rg.length : Int) := by rw [rgD_len]
  have n0 : 0 < rg.length := by omega
  obtain ⟨w, ew, hw, hw2⟩ : ∃ w : Int, z / 9 % 1000000000 = w ∧ 0 ≤ w ∧ w < 1000000000 := ⟨_, rfl, by omega, by omega⟩
  obtain ⟨q, eq, hq, hq2⟩ : ∃ q : Int, z % 9 = q ∧ 0 ≤ q ∧ q < 9 := ⟨_, rfl, by omega, by omega⟩
  obtain ⟨a, ea, ha⟩ := mod_nat n0 w
  obtain ⟨b, eb, hb⟩ := mod_nat n0 (w / 3)
  have np : (0 : Int) < (rg.length : Int) := by omega
  have fa := hf.at_ a ha
  have f0 := hf.f0
  have sa := sub_rg ha
  obtain ⟨s1, s2, s3⟩ := spansL_ok hf ha hb
  have sp : mirN defs (k + 2) "_law_spans" [.lst (rgD rg), .int (a : Int), .int (b : Int)] = _ := spans_eq (k + 1) hf ha hb
  have sg : ∀ z : Int, ∃ r, mirN defs (k + 2) "_law_single" [.int z, .int c, .lst (rgD rg)] = .ok (.fr (rowD r)) ∧ r.Ok rg.length ∧ rowD r = kindD r.kind r.nums ∧ ∀ m a : Int, (1 ≤ m ∧ SmI m) → (0 ≤ a ∧ a < m) → (Rul.every m a r).Ok rg.length := fun z => single_eq k hf h1 h4 z c
  generalize lo rg a = l at sa fa
  generalize hi rg a = h at sa fa
  have nl := lrg_ints (i := l) (j := h + 1) (by omega)
  have l1 : (rngL l (h + 1 - l).toNat).length = (h + 1 - l).toNat := rngL_length _ _
  have l3 : ∀ x ∈ rngL l (h + 1 - l).toNat, SmI x := fun x hx => smi_of (by have := rngL_mem hx; omega)
  have t1 : 1 ≤ (h + 1 - l).toNat ∧ (h + 1 - l).toNat ≤ 4 := by omega
  generalize (h + 1 - l).toNat = t at *
  have ln : ((intsD (rngL l t)).length : Int) = (t : Int) := by rw [intsD_len, l1]
  generalize rngL l t = N at *
  obtain ⟨nn, hnn⟩ : ∃ nn : Int, (rg.length : Int) = nn := ⟨_, rfl⟩
  rw [hnn] at ll ea eb np
  rcases (show q < 2 ∨ q = 2 ∨ q = 3 ∨ q = 4 ∨ q = 5 ∨ q = 6 ∨ q = 7 ∨ q = 8 by omega) with g | g | g | g | g | g | g | g
  · obtain ⟨r, hr, ok, _, _⟩ := sg (2 * w + q)
    refine ⟨r, ?_, ok⟩
    have m1 := mul_sm (i := 2) (j := w) (by omega) (by omega)
    generalize rowD r = W at *
    generalize intsD N = NN at *
    generalize rgD rg = G at *
    generalize (a : Int) = az at *
    simp [a_l_rule, ew, eq, ll, np, ea, sa, nl, g, m1, hr]
  · subst g
    have lr := lrg_ints (i := l - h) (j := h - l + 1) (by omega)
    have p1 : 1 ≤ (rngL (l - h) (h - l + 1 - (l - h)).toNat).length := by rw [rngL_length]; omega
    have p2 : (rngL (l - h) (h - l + 1 - (l - h)).toNat).length ≤ 40 := by rw [rngL_length]; omega
    have p3 : ∀ x ∈ rngL (l - h) (h - l + 1 - (l - h)).toNat, SmI x := fun x hx => smi_small (by have := rngL_mem hx; omega)
    generalize rngL (l - h) (h - l + 1 - (l - h)).toNat = M at *
    obtain ⟨s, so, hs⟩ := lsome_eq (k + 1) M c p1 p2
    have so : mirN defs (k + 2) "_law_some" [.lst (intsD M), .int c] = _ := so
    have ok := oks_of hs p3
    have ad : binD .add (.lst [.str [109, 111, 118, 101], .int ((a : Int) + 1)]) (.lst (intsD s)) = .ok (.fr (rowD (.move a s))) := add_lst (by rw [intsD_len]; have := ok.hi; simp; omega)
    refine ⟨.move a s, ?_, ha, ok⟩
    generalize rowD (.move a s) = W at *
    generalize intsD s = G1 at *
    generalize intsD M = G2 at *
    generalize intsD N = NN at *
    generalize rgD rg = G at *
    generalize (a : Int) = az at *
    simp [a_l_rule, ew, eq, ll, np, ea, sa, nl, lr, so, ad]
  · subst g
    obtain ⟨s, so, hs⟩ := lsome_eq (k + 1) (spansL rg a b) c s1 s2
    have so : mirN defs (k + 2) "_law_some" [.lst (intsD (spansL rg a b)), .int c] = _ := so
    have ok := oks_of hs s3
    have ad : binD .add (.lst [.str [97, 108, 105, 107, 101], .int ((a : Int) + 1), .int ((b : Int) + 1)]) (.lst (intsD s)) = .ok (.fr (rowD (.alike a b s))) := add_lst (by rw [intsD_len]; have := ok.hi; simp; omega)
    refine ⟨.alike a b s, ?_, ha, hb, ok⟩
    generalize rowD (.alike a b s) = W at *
    generalize intsD s = G1 at *
    generalize intsD (spansL rg a b) = G2 at *
    generalize intsD N = NN at *
    generalize rgD rg = G at *
    generalize (a : Int) = az at *
    generalize (b : Int) = bz at *
    simp [a_l_rule, ew, eq, ll, np, ea, eb, sa, nl, sp, so, ad]
  · subst g
    have hz : 0 ≤ w / 9 % 3 ∧ w / 9 % 3 < 3 := by omega
    refine ⟨.back a (w / 9 % 3), ?_, ha, hz.1, smi_small (by omega)⟩
    have er : rowD (.back a (w / 9 % 3)) = [.str [98, 97, 99, 107], .int ((a : Int) + 1), .int (w / 9 % 3)] := rfl
    rw [er]
    generalize intsD N = NN at *
    generalize rgD rg = G at *
    generalize (a : Int) = az at *
    simp [a_l_rule, ew, eq, ll, np, ea, sa, nl]
  · subst g
    have hz : 1 ≤ 1 + w / 9 % 3 ∧ 1 + w / 9 % 3 < 4 := by omega
    refine ⟨.held a (1 + w / 9 % 3), ?_, ha, hz.1, smi_small (by omega)⟩
    have er : rowD (.held a (1 + w / 9 % 3)) = [.str [104, 101, 108, 100], .int ((a : Int) + 1), .int (1 + w / 9 % 3)] := rfl
    rw [er]
    generalize intsD N = NN at *
    generalize rgD rg = G at *
    generalize (a : Int) = az at *
    simp [a_l_rule, ew, eq, ll, np, ea, sa, nl]
  · subst g
    have hz : 0 ≤ w / 36 % 3 ∧ w / 36 % 3 < 3 := by omega
    have hy : 0 ≤ w / 108 % 4 ∧ w / 108 % 4 < 4 := by omega
    obtain ⟨i, ei, hi'⟩ := mod_nat (show 0 < t by omega) (w / 9)
    have tp : (0 : Int) < (t : Int) := by omega
    have sx := sub_lst (intsD_at (c := N) (i := i) (by omega))
    have hx : SmI N[i] := l3 _ (List.getElem_mem _)
    generalize N[i] = x at sx hx
    generalize (t : Int) = tt at *
    refine ⟨.times a x (w / 36 % 3) (w / 108 % 4), ?_, ha, hx, ⟨hz.1, smi_small (by omega)⟩, hy.1, smi_small (by omega)⟩
    have er : rowD (.times a x (w / 36 % 3) (w / 108 % 4)) = [.str [116, 105, 109, 101, 115], .int ((a : Int) + 1), .int x, .int (w / 36 % 3), .int (w / 108 % 4)] := rfl
    rw [er]
    generalize intsD N = NN at *
    generalize rgD rg = G at *
    generalize (a : Int) = az at *
    generalize (i : Int) = iz at *
    simp [a_l_rule, ew, eq, ll, np, ea, sa, nl, ln, tp, ei, sx]
  · subst g
    obtain ⟨s, so, hs⟩ := lsome_eq (k + 1) N c (by omega) (by omega)
    have so : mirN defs (k + 2) "_law_some" [.lst (intsD N), .int c] = _ := so
    have ok := oks_of hs l3
    rcases (show w / 9 % 2 = 0 ∨ w / 9 % 2 = 1 by omega) with u | u
    · have ad : binD .add (.lst [.str [98, 101, 103, 105, 110], .int ((a : Int) + 1)]) (.lst (intsD s)) = .ok (.fr (rowD (.begin a s))) := add_lst (by rw [intsD_len]; have := ok.hi; simp; omega)
      have sb : subD (.lst [.str [98, 101, 103, 105, 110], .str [99, 108, 111, 115, 101]]) (.int 0) = .ok (.str [98, 101, 103, 105, 110]) := rfl
      refine ⟨.begin a s, ?_, ha, ok⟩
      generalize rowD (.begin a s) = W at *
      generalize intsD s = G1 at *
      generalize intsD N = NN at *
      generalize rgD rg = G at *
      generalize (a : Int) = az at *
      simp [a_l_rule, ew, eq, ll, np, ea, sa, nl, u, sb, so, ad]
    · have ad : binD .add (.lst [.str [99, 108, 111, 115, 101], .int ((a : Int) + 1)]) (.lst (intsD s)) = .ok (.fr (rowD (.close a s))) := add_lst (by rw [intsD_len]; have := ok.hi; simp; omega)
      have sb : subD (.lst [.str [98, 101, 103, 105, 110], .str [99, 108, 111, 115, 101]]) (.int 1) = .ok (.str [99, 108, 111, 115, 101]) := rfl
      refine ⟨.close a s, ?_, ha, ok⟩
      generalize rowD (.close a s) = W at *
      generalize intsD s = G1 at *
      generalize intsD N = NN at *
      generalize rgD rg = G at *
      generalize (a : Int) = az at *
      simp [a_l_rule, ew, eq, ll, np, ea, sa, nl, u, sb, so, ad]
  · subst g
    obtain ⟨m, hm, hm1⟩ : ∃ m : Int, 1 + w / 9 % 3 = m ∧ 1 ≤ m ∧ m ≤ 3 := ⟨_, rfl, by omega⟩
    obtain ⟨v, hv, hv1⟩ : ∃ v : Int, w / 27 % m = v ∧ 0 ≤ v ∧ v < m := ⟨_, rfl, Int.emod_nonneg _ (by omega), Int.emod_lt_of_pos _ (by omega)⟩
    have mp : 0 < m := by omega
    obtain ⟨r, hr, ok, fl, ev⟩ := sg (w / 81)
    have ok2 := ev m v ⟨hm1.1, smi_small (by omega)⟩ hv1
    have rl : (rowD r).length ≤ 100 := by
      have := (Rul.nums_ok (show rg.length ≤ 1000 by omega) ok (every_words (show rg.length ≤ 1000 by omega) ok2).2.1).2.1
      rw [fl, kindD_len]
      omega
    have ad : binD .add (.lst [.str [101, 118, 101, 114, 121], .int m, .int v]) (.lst (rowD r)) = .ok (.fr (rowD (.every m v r))) := by
      have := add_lst (a := [.str [101, 118, 101, 114, 121], .int m, .int v]) (b := rowD r) (by simp; omega)
      rw [this]
      show R.ok (Val.fr (.str [101, 118, 101, 114, 121] :: .int m :: .int v :: rowD r)) = R.ok (Val.fr (.str [101, 118, 101, 114, 121] :: .int m :: .int v :: kindD r.kind r.nums))
      rw [fl]
    refine ⟨.every m v r, ?_, ok2⟩
    generalize rowD (.every m v r) = W at *
    generalize rowD r = G1 at *
    generalize intsD N = NN at *
    generalize rgD rg = G at *
    generalize (a : Int) = az at *
    simp [a_l_rule, ew, eq, ll, np, ea, sa, nl, hm, mp, hv, hr, ad]
theorem heavyR_le {f : Int} {rg : Rg} (hf : RgF f rg) : ∀ i, i ≤ rg.length → 1 ≤ heavyR (rg.take i) ∧ heavyR (rg.take i) ≤ 4 ^ i
  | 0, _ => by rw [List.take_zero]; exact ⟨Int.le_refl _, Int.le_refl _⟩
  | i + 1, h => by
    obtain ⟨h1, h2⟩ := heavyR_le hf i (by omega)
    have g := hf.at_ i (by omega)
    rw [heavyR_succ (by omega)]
    generalize heavyR (rg.take i) = v at *
    obtain ⟨d, hd⟩ : ∃ d, hi rg i - lo rg i + 1 = d := ⟨_, rfl⟩
    rw [hd]
    have d1 : 1 ≤ d ∧ d ≤ 4 := by omega
    have e1 : 1 * 1 ≤ v * d := Int.mul_le_mul h1 d1.1 (by decide) (by omega)
    have e2 : v * d ≤ 4 ^ i * 4 := Int.mul_le_mul h2 d1.2 (by omega) (by omega)
    rw [Int.pow_succ]
    exact ⟨by omega, e2⟩
theorem heavyR_256 {f : Int} {rg : Rg} (hf : RgF f rg) (h4 : rg.length ≤ 4) {i : Nat} (h : i ≤ rg.length) : 1 ≤ heavyR (rg.take i) ∧ heavyR (rg.take i) ≤ 256 := by
  obtain ⟨h1, h2⟩ := heavyR_le hf i h
  refine ⟨h1, Int.le_trans h2 ?_⟩
  rcases (show i = 0 ∨ i = 1 ∨ i = 2 ∨ i = 3 ∨ i = 4 by omega) with h | h | h | h | h <;> subst h <;> decide
theorem rules_eq (k : Nat) {ns : List Int} (hs : Sc ns) {f : Int} {rg : Rg} (hf : RgF f rg) (h1 : 1 ≤ rg.length) (h4 : rg.length ≤ 4) : ∃ rs, mir (k + 4) "_law_rules" [.scr ns, .lst (rgD rg)] = .ok (.fr (rowsD rs)) ∧ (∀ r ∈ rs, r.Ok rg.length) ∧ rs.length ≤ 4 ∧ 1 ≤ weightV rg rs ∧ weightV rg rs ≤ 400 := by
  have e : mir (k + 4) "_law_rules" [.scr ns, .lst (rgD rg)] = _ := (mirN_run (d := a_l_rules) rfl _).trans (run_0 rfl)
  rw [e]
  have gt : ∀ p : Nat, p < 1000000 → mirN defs (k + 3) "_law_got" [.scr ns, .int p] = .ok (.d (.int (gotV ns p))) := fun p hp => (got_eq rfl rfl (k + 1) hp hs).1
  have st0 : exes (mirN defs (k + 3)) a_l_rules.body [.fz (.scr ns), .fz (.lst (rgD rg)), .no, .no, .no, .no, .no, .no] = (forL (.tup [3, 4]) (exes (mirN defs (k + 3)) b_l_rules_0) (rgD rg) [.fz (.scr ns), .fz (.lst (rgD rg)), .fz (.int 1), .no, .no, .no, .no, .no]).thn (exes (mirN defs (k + 3)) (dropS 2 a_l_rules.body)) := by
    generalize rgD rg = G at *
    simp [a_l_rules, dropS]
  show ∃ rs, (exes (mirN defs (k + 3)) a_l_rules.body [.fz (.scr ns), .fz (.lst (rgD rg)), .no, .no, .no, .no, .no, .no]).val = _ ∧ _
  rw [st0]
  refine for_rule (R := fun o => ∃ rs, (o.thn _).val = R.ok (Val.fr (rowsD rs)) ∧ (∀ r ∈ rs, r.Ok rg.length) ∧ rs.length ≤ 4 ∧ 1 ≤ weightV rg rs ∧ weightV rg rs ≤ 400) (fun i S => ∃ x y, S = [.fz (.scr ns), .fz (.lst (rgD rg)), .fz (.int (heavyR (rg.take i))), x, y, .no, .no, .no]) ⟨_, _, rfl⟩ ?_ ?_
  · rintro i x S hx ⟨x1, x2, rfl⟩
    have hi' : i < rg.length := by
      have := (List.getElem?_eq_some_iff.mp hx).1
      rwa [rgD_len] at this
    rw [rg_at hi'] at hx
    cases hx
    obtain ⟨v1, v2⟩ := heavyR_256 hf h4 (show i ≤ rg.length by omega)
    have g := hf.at_ i hi'
    have hv := heavyR_succ hi'
    generalize heavyR (rg.take (i + 1)) = v' at *
    generalize heavyR (rg.take i) = v at *
    subst hv
    have f0 := hf.f0
    generalize lo rg i = l at *
    generalize hi rg i = h at *
    have m1 := mul_sm (i := v) (j := h - l + 1) (by omega) (by omega)
    refine ⟨_, rfl, ?_⟩
    generalize rgD rg = G at *
    simp [b_l_rules_0, m1]
  · rintro S ⟨x1, x2, rfl⟩
    rw [rgD_len]
    have v12 := heavyR_256 hf h4 (Nat.le_refl rg.length)
    rw [List.take_length] at *
    have g0 : mirN defs (k + 3) "_law_got" [.scr ns, .int 0] = _ := gt 0 (by decide)
    generalize gotV ns 0 = c at g0
    obtain ⟨n, hn, hn4⟩ : ∃ n : Nat, c / 16 % 5 = (n : Int) ∧ n ≤ 4 := ⟨(c / 16 % 5).toNat, by omega, by omega⟩
    have rr : rngD 0 (n : Int) = _ := rng_n (by omega)
    have st1 : exes (mirN defs (k + 3)) (dropS 2 a_l_rules.body) [.fz (.scr ns), .fz (.lst (rgD rg)), .fz (.int (heavyR rg)), x1, x2, .no, .no, .no] = (forL (.one 6) (exes (mirN defs (k + 3)) b_l_rules_1) ((List.range n).map fun i => .int (i : Nat)) [.fz (.scr ns), .fz (.lst (rgD rg)), .fz (.int (heavyR rg)), x1, x2, .own [], .no, .no]).thn (exes (mirN defs (k + 3)) (dropS 4 a_l_rules.body)) := by
      generalize rgD rg = G at *
      generalize heavyR rg = H at *
      simp [a_l_rules, dropS, g0, hn, rr]
    rw [thn_nx, st1]
    refine for_rule (R := fun o => ∃ rs, (o.thn _).val = R.ok (Val.fr (rowsD rs)) ∧ (∀ r ∈ rs, r.Ok rg.length) ∧ rs.length ≤ 4 ∧ 1 ≤ weightV rg rs ∧ weightV rg rs ≤ 400) (fun i S => ∃ rs y z, S = [.fz (.scr ns), .fz (.lst (rgD rg)), .fz (.int (weightV rg rs)), x1, x2, .own (rowsD rs), y, z] ∧ (∀ r ∈ rs, r.Ok rg.length) ∧ rs.length ≤ i ∧ 1 ≤ weightV rg rs ∧ weightV rg rs ≤ 400) ⟨[], _, _, rfl, (fun _ h => nomatch h), Nat.le_refl _, show 1 ≤ heavyR rg by omega, show heavyR rg ≤ 400 by omega⟩ ?_ ?_
    · rintro i x S hx ⟨rs, y, z, rfl, ok, hl, w1, w2⟩
      obtain ⟨hi', rfl⟩ := rng_get hx
      refine ⟨_, rfl, ?_⟩
      have g5 : mirN defs (k + 3) "_law_got" [.scr ns, .int (5 + 2 * (i : Int))] = _ := gt (5 + 2 * i) (by omega)
      have g6 : mirN defs (k + 3) "_law_got" [.scr ns, .int (6 + 2 * (i : Int))] = _ := gt (6 + 2 * i) (by omega)
      generalize gotV ns (5 + 2 * i) = c5 at g5
      generalize gotV ns (6 + 2 * i) = c6 at g6
      obtain ⟨r, hr, okr⟩ := rule_eq k hf h1 h4 c5 c6
      have hr : mirN defs (k + 3) "_law_rule" [.int c5, .int c6, .lst (rgD rg)] = _ := hr
      have hz : mirN defs (k + 3) "_law_size" [.lst (rowD r)] = _ := lsize_eq (k + 2) r
      obtain ⟨z1, z2⟩ := size_pos okr
      have m1 := mul_sm (i := weightV rg rs) (j := r.size) (by omega) (by omega)
      have m2 := mul_sm (i := 2) (j := (i : Int)) (by omega) (by omega)
      have sl : (rowsD rs).length < 16777216 := by rw [rowsD_len]; omega
      have fin1 : weightV rg rs * r.size ≤ 400 → ∃ rs', rowsD rs' = rowsD rs ++ [.lst (rowD r)] ∧ weightV rg rs' = weightV rg rs * r.size ∧ (∀ r ∈ rs', r.Ok rg.length) ∧ rs'.length ≤ i + 1 ∧ 1 ≤ weightV rg rs' ∧ weightV rg rs' ≤ 400 := fun h => by
        refine ⟨rs ++ [r], (rowsD_snoc rs r).symm, weightV_snoc rg rs r, fun r' h => ?_, by rw [List.length_append, List.length_singleton]; omega, ?_, by rw [weightV_snoc]; exact h⟩
        · rcases List.mem_append.mp h with h | h
          · exact ok _ h
          · rw [List.mem_singleton.mp h]; exact okr
        · rw [weightV_snoc]
          have : 1 * 1 ≤ weightV rg rs * r.size := Int.mul_le_mul w1 z1 (by decide) (by omega)
          omega
      have fin0 : ∃ rs', rowsD rs' = rowsD rs ∧ weightV rg rs' = weightV rg rs ∧ (∀ r ∈ rs', r.Ok rg.length) ∧ rs'.length ≤ i + 1 ∧ 1 ≤ weightV rg rs' ∧ weightV rg rs' ≤ 400 := ⟨rs, rfl, rfl, ok, by omega, w1, w2⟩
      clear ok
      generalize rowsD rs = RR at *
      generalize weightV rg rs = WW at *
      generalize rgD rg = G at *
      generalize rowD r = W at *
      generalize r.size = sz at *
      by_cases q : WW * sz ≤ 400
      · obtain ⟨rs', e1, e2, e3⟩ := fin1 q
        simp [b_l_rules_1, g5, g6, m2, hr, hz, m1, q, sl]
        exact ⟨rs', ⟨e2.symm, e1.symm⟩, e3⟩
      · obtain ⟨rs', e1, e2, e3⟩ := fin0
        simp [b_l_rules_1, g5, g6, m2, hr, hz, m1, q]
        exact ⟨rs', ⟨e2.symm, e1.symm⟩, e3⟩
    · rintro S ⟨rs, y, z, rfl, ok, hl, w1, w2⟩
      rw [List.length_map, List.length_range] at hl
      refine ⟨rs, ?_, ok, by omega, w1, w2⟩
      generalize rowsD rs = RR at *
      generalize weightV rg rs = WW at *
      generalize rgD rg = G at *
      simp [a_l_rules, dropS]
end Lk23
end
section
set_option maxHeartbeats 1000000
namespace Lk23
open Fv
theorem RgF.ok {f : Int} {rg : Rg} (h : RgF f rg) : ∀ p ∈ rg, RgOk p := fun p hp => by
  obtain ⟨i, hi', rfl⟩ := List.getElem_of_mem hp
  have g := h.at_ i hi'
  have f0 := h.f0
  have e1 : lo rg i = rg[i].1 := by unfold lo; rw [List.getD_eq_getElem?_getD, List.getElem?_eq_getElem hi']; rfl
  have e2 : hi rg i = rg[i].2 := by unfold hi; rw [List.getD_eq_getElem?_getD, List.getElem?_eq_getElem hi']; rfl
  rw [e1, e2] at g
  exact ⟨smi_of (by omega), smi_of (by omega), by omega⟩
theorem text_eq (k : Nat) {rg : Rg} {rs : List Rul} {n : Nat} (hn : n ≤ 1000) (hg : ∀ p ∈ rg, RgOk p) (hr : ∀ r ∈ rs, r.Ok n) (hl : rg.length + rs.length ≤ 100) : mir (k + 1) "_law_text" [.lst (rgD rg), .lst (rowsD rs)] = .ok (.d (.str (scoreT rg rs))) := by
  refine (mirN_run (d := a_l_text) rfl _).trans ((run_0 rfl).trans ?_)
  have c1 : compL (.tup [3, 4]) [.fz (.lst (rgD rg)), .fz (.lst (rowsD rs)), .no, .no, .no, .no, .no] (evT (mirN defs k) (.cst (.bl true))) (elt (mirN defs k) q_l_text_0) (rgD rg) [] = .ok (strsD (rg.map rangeT)) := by
    have z := compL_map (tg := .tup [3, 4]) (S := [.fz (.lst (rgD rg)), .fz (.lst (rowsD rs)), .no, .no, .no, .no, .no]) (c := evT (mirN defs k) (.cst (.bl true))) (e := elt (mirN defs k) q_l_text_0) (fun p : Int × Int => D.tup [.int p.1, .int p.2]) (fun p => .str (rangeT p)) rg [] fun p hp => by
      have h := hg p hp
      have b1 := bi_str_int (smi_bt h.1)
      have b2 := bi_str_int (smi_bt h.2.1)
      have l1 := (itx_word h.1).2.2
      have l2 := (itx_word h.2.1).2.2
      have a1 := add_str (a := [118, 111, 105, 99, 101, 32]) (b := itx p.1) (by simp; omega)
      have a2 := add_str (a := [118, 111, 105, 99, 101, 32] ++ itx p.1) (b := [32]) (by simp; omega)
      have a3 := add_str (a := [118, 111, 105, 99, 101, 32] ++ itx p.1 ++ [32]) (b := itx p.2) (by simp; omega)
      have a3 : binD .add (.str ([118, 111, 105, 99, 101, 32] ++ itx p.1 ++ [32])) (.str (itx p.2)) = .ok (.d (.str (rangeT p))) := a3.trans (by rw [rangeT_eq])
      generalize rgD rg = G at *
      generalize rowsD rs = H at *
      generalize rangeT p = T at *
      generalize [118, 111, 105, 99, 101, 32] ++ itx p.1 ++ [32] = t2 at *
      generalize [118, 111, 105, 99, 101, 32] ++ itx p.1 = t1 at *
      generalize itx p.1 = x1 at *
      generalize itx p.2 = x2 at *
      exact ⟨_, rfl, by simp, by simp [q_l_text_0, b1, b2, a1, a2, a3]⟩
    rw [List.nil_append] at z
    unfold strsD
    rw [List.map_map]
    exact z
  have c2 : compL (.one 5) [.fz (.lst (rgD rg)), .fz (.lst (rowsD rs)), .own (strsD (rg.map rangeT)), .no, .no, .no, .no] (evT (mirN defs k) (.cst (.bl true))) (elt (mirN defs k) q_l_text_2) (rowsD rs) [] = .ok (strsD (rs.map Rul.text)) := by
    have z := compL_map (tg := .one 5) (S := [.fz (.lst (rgD rg)), .fz (.lst (rowsD rs)), .own (strsD (rg.map rangeT)), .no, .no, .no, .no]) (c := evT (mirN defs k) (.cst (.bl true))) (e := elt (mirN defs k) q_l_text_2) (fun r : Rul => D.lst (rowD r)) (fun r => .str r.text) rs [] fun r hr' => by
      have ok := hr r hr'
      have cw := comp_row (Γ := mirN defs k) (T := [.fz (.lst (rgD rg)), .fz (.lst (rowsD rs)), .own (strsD (rg.map rangeT)), .no, .no, .fz (.lst (rowD r)), .no]) (v := 6) (q := q_l_text_1) hn ok fun d r hd => by simp [q_l_text_1, hd]
      have cj := rule_join hn ok
      have rl : (rowD r).length ≤ 16777216 := by have := row_len hn ok; omega
      generalize rgD rg = G at *
      generalize rowsD rs = H at *
      generalize strsD (rg.map rangeT) = X at *
      generalize strsD r.words = W at *
      generalize r.text = T at *
      generalize rowD r = R at *
      exact ⟨_, rfl, by simp, by simp [q_l_text_2, wipeS, rl, cw, cj]⟩
    rw [List.nil_append] at z
    have e : strsD (rs.map Rul.text) = rs.map fun r => .str r.text := by unfold strsD; rw [List.map_map]; rfl
    rw [e]
    exact z
  have ex : ∀ S : Sg, extO (strsD (rg.map rangeT)) S 2 (.lst (strsD (rs.map Rul.text))) = .nx (S.set 2 (.own (strsD (rowsT rg rs)))) := fun S => by
    rw [extO_ok (by rw [strsD_len, strsD_len, List.length_map, List.length_map]; omega)]
    unfold rowsT strsD
    rw [List.map_append]
  have jn := score_join hn hg hr hl
  have l1 : (rgD rg).length ≤ 16777216 := by rw [rgD_len]; omega
  have l2 : (rowsD rs).length ≤ 16777216 := by rw [rowsD_len]; omega
  generalize rgD rg = G at *
  generalize rowsD rs = H at *
  generalize strsD (rg.map rangeT) = X at *
  generalize strsD (rs.map Rul.text) = Y at *
  generalize strsD (rowsT rg rs) = Z at *
  generalize scoreT rg rs = T at *
  simp [a_l_text, wipeS, l1, l2, c1, c2, ex, jn]
/-- columns near the far note -/
structure ColB (c : List Int) (n : Nat) : Prop where
  len : c.length = n
  ok : ∀ x ∈ c, -200000000000000000000 ≤ x ∧ x ≤ 200000000000000000000
structure LB (L : List (List Int)) (n : Nat) : Prop where
  len : L.length ≤ 30
  ok : ∀ c ∈ L, ColB c n
theorem ColB.col {c : List Int} {n : Nat} (h : ColB c n) : Col c n := ⟨h.len, fun x hx => by have := h.ok x hx; omega⟩
theorem LB.li {L : List (List Int)} {n : Nat} (h : LB L n) : Li L n := ⟨by have := h.len; omega, fun c hc => (h.ok c hc).col⟩
theorem column_eq1 (k : Nat) {f : Int} {rg : Rg} (hf : RgF f rg) (h4 : rg.length ≤ 4) (z : Int) : ∃ c, mir (k + 1) "_law_column" [.lst (rgD rg), .int z] = .ok (.d (.tup (intsD c))) ∧ ColB c rg.length := by
  have e : mir (k + 1) "_law_column" [.lst (rgD rg), .int z] = _ := (mirN_run (d := a_l_column) rfl _).trans (run_0 rfl)
  rw [e]
  have st0 : exes (mirN defs k) a_l_column.body [.fz (.lst (rgD rg)), .fz (.int z), .no, .no, .no, .no] = (forL (.tup [3, 4]) (exes (mirN defs k) b_l_column_0) (rgD rg) [.fz (.lst (rgD rg)), .fz (.int z), .own [], .no, .no, .no]).thn (exes (mirN defs k) (dropS 2 a_l_column.body)) := by
    generalize rgD rg = G at *
    simp [a_l_column, dropS]
  show ∃ c, (exes (mirN defs k) a_l_column.body [.fz (.lst (rgD rg)), .fz (.int z), .no, .no, .no, .no]).val = _ ∧ _
  rw [st0]
  refine for_rule (R := fun o => ∃ c, (o.thn _).val = R.ok (Val.d (.tup (intsD c))) ∧ ColB c rg.length) (fun i S => ∃ w c x1 x2 x3, S = [.fz (.lst (rgD rg)), .fz (.int w), .own (intsD c), x1, x2, x3] ∧ c.length = i ∧ ∀ x ∈ c, -200000000000000000000 ≤ x ∧ x ≤ 200000000000000000000) ⟨z, [], _, _, _, rfl, rfl, fun _ h => nomatch h⟩ ?_ ?_
  · rintro i x S hx ⟨w, c, x1, x2, x3, rfl, hl, hc⟩
    have hi' : i < rg.length := by
      have := (List.getElem?_eq_some_iff.mp hx).1
      rwa [rgD_len] at this
    rw [rg_at hi'] at hx
    have hx := (Option.some.inj hx).symm
    subst hx
    have g := hf.at_ i hi'
    have f0 := hf.f0
    generalize lo rg i = l at *
    generalize hi rg i = h at *
    have dp : 0 < h - l + 1 := by omega
    have d30 : h - l + 1 < 1073741824 := by omega
    have m1 : 0 ≤ w % (h - l + 1) := Int.emod_nonneg _ (by omega)
    have m2 : w % (h - l + 1) < h - l + 1 := Int.emod_lt_of_pos _ dp
    have dm := bi_divmod (i := w) dp d30
    have sl : (intsD c).length < 16777216 := by rw [intsD_len]; omega
    have fin : ∃ c', intsD c' = intsD c ++ [.int (l + w % (h - l + 1))] ∧ c'.length = i + 1 ∧ ∀ x ∈ c', -200000000000000000000 ≤ x ∧ x ≤ 200000000000000000000 := ⟨c ++ [l + w % (h - l + 1)], (intsD_snoc c _).symm, by rw [List.length_append, hl]; rfl, fun x hx => by
      rcases List.mem_append.mp hx with hx | hx
      · exact hc x hx
      · rw [List.mem_singleton.mp hx]; omega⟩
    refine ⟨_, rfl, ?_⟩
    clear hc
    generalize intsD c = C at *
    generalize rgD rg = G at *
    obtain ⟨c', e1, e2, e3⟩ := fin
    generalize hq : h - l + 1 = q at *
    generalize w % q = wm at *
    generalize w / q = wd at *
    simp [b_l_column_0, hq, dm, sl]
    exact ⟨_, c', ⟨rfl, e1.symm⟩, e2, e3⟩
  · rintro S ⟨w, c, x1, x2, x3, rfl, hl, hc⟩
    rw [rgD_len] at hl
    refine ⟨c, ?_, hl, hc⟩
    generalize intsD c = C at *
    generalize rgD rg = G at *
    simp [a_l_column, dropS]
end Lk23
end
section
set_option maxHeartbeats 2000000
namespace Lk23
open Fv
theorem ColB.snoc {L : List (List Int)} {n : Nat} (h : ∀ c ∈ L, ColB c n) {c : List Int} (hc : ColB c n) : ∀ c' ∈ L ++ [c], ColB c' n := fun c' hx => by
  rcases List.mem_append.mp hx with hx | hx
  · exact h _ hx
  · rw [List.mem_singleton.mp hx]; exact hc
theorem line_eq (k : Nat) {ns : List Int} (hs : Sc ns) {f : Int} {rg : Rg} (hf : RgF f rg) (h1 : 1 ≤ rg.length) (h4 : rg.length ≤ 4) {rs : List Rul} (hr : ∀ r ∈ rs, r.Ok rg.length) (hl : rs.length ≤ 4) : ∃ L, mir (k + 4) "_law_line" [.scr ns, .lst (rgD rg), .lst (rowsD rs)] = .ok (.fr (colsT L)) ∧ Li L rg.length ∧ L.length ≤ 30 := by
  have e : mir (k + 4) "_law_line" [.scr ns, .lst (rgD rg), .lst (rowsD rs)] = _ := (mirN_run (d := a_l_line) rfl _).trans (run_0 rfl)
  rw [e]
  have gt : ∀ p : Nat, p < 1000000 → mirN defs (k + 3) "_law_got" [.scr ns, .int p] = .ok (.d (.int (gotV ns p))) := fun p hp => (got_eq rfl rfl (k + 1) hp hs).1
  have st0 : exes (mirN defs (k + 3)) a_l_line.body [.fz (.scr ns), .fz (.lst (rgD rg)), .fz (.lst (rowsD rs)), .no, .no, .no, .no, .no, .no, .no, .no, .no, .no] = (forL (.tup [4, 5]) (exes (mirN defs (k + 3)) b_l_line_0) (rgD rg) [.fz (.scr ns), .fz (.lst (rgD rg)), .fz (.lst (rowsD rs)), .fz (.int 1), .no, .no, .no, .no, .no, .no, .no, .no, .no]).thn (exes (mirN defs (k + 3)) (dropS 2 a_l_line.body)) := by
    generalize rgD rg = G at *
    generalize rowsD rs = RR at *
    simp [a_l_line, dropS]
  show ∃ L, (exes (mirN defs (k + 3)) a_l_line.body [.fz (.scr ns), .fz (.lst (rgD rg)), .fz (.lst (rowsD rs)), .no, .no, .no, .no, .no, .no, .no, .no, .no, .no]).val = _ ∧ _
  rw [st0]
  refine for_rule (R := fun o => ∃ L, (o.thn _).val = R.ok (Val.fr (colsT L)) ∧ Li L rg.length ∧ L.length ≤ 30) (fun i S => ∃ x y, S = [.fz (.scr ns), .fz (.lst (rgD rg)), .fz (.lst (rowsD rs)), .fz (.int (heavyR (rg.take i))), x, y, .no, .no, .no, .no, .no, .no, .no]) ⟨_, _, rfl⟩ ?_ ?_
  · rintro i x S hx ⟨x1, x2, rfl⟩
    have hi' : i < rg.length := by
      have := (List.getElem?_eq_some_iff.mp hx).1
      rwa [rgD_len] at this
    rw [rg_at hi'] at hx
    cases hx
    obtain ⟨v1, v2⟩ := heavyR_256 hf h4 (show i ≤ rg.length by omega)
    have g := hf.at_ i hi'
    have hv := heavyR_succ hi'
    generalize heavyR (rg.take (i + 1)) = v' at *
    generalize heavyR (rg.take i) = v at *
    subst hv
    have f0 := hf.f0
    generalize lo rg i = l at *
    generalize hi rg i = h at *
    have m1 := mul_sm (i := v) (j := h - l + 1) (by omega) (by omega)
    refine ⟨_, rfl, ?_⟩
    generalize rgD rg = G at *
    generalize rowsD rs = RR at *
    simp [b_l_line_0, m1]
  rintro S ⟨x4, x5, rfl⟩
  rw [rgD_len]
  have v12 := heavyR_256 hf h4 (Nat.le_refl rg.length)
  rw [List.take_length] at *
  generalize heavyR rg = m at v12 ⊢
  have ct : mirN defs (k + 3) "_law_cells" [.scr ns, .int 14, .int 44] = _ := cells_at rfl rfl rfl k 14 44 (by decide) (by decide) hs
  obtain ⟨cs, hcs, hcl⟩ : ∃ cs : List Int, ((List.range (min 44 ns.length - 14)).map fun i => D.int (gotV ns (14 + i))) = intsD cs ∧ cs.length ≤ 30 := ⟨(List.range (min 44 ns.length - 14)).map fun i => gotV ns (14 + i), by unfold intsD; rw [List.map_map]; rfl, by rw [List.length_map, List.length_range]; omega⟩
  rw [hcs] at ct
  have st1 : exes (mirN defs (k + 3)) (dropS 2 a_l_line.body) [.fz (.scr ns), .fz (.lst (rgD rg)), .fz (.lst (rowsD rs)), .fz (.int m), x4, x5, .no, .no, .no, .no, .no, .no, .no] = (forL (.one 7) (exes (mirN defs (k + 3)) b_l_line_2) (intsD cs) [.fz (.scr ns), .fz (.lst (rgD rg)), .fz (.lst (rowsD rs)), .fz (.int m), x4, x5, .own [], .no, .no, .no, .no, .no, .no]).thn (exes (mirN defs (k + 3)) (dropS 4 a_l_line.body)) := by
    generalize rgD rg = G at *
    generalize rowsD rs = RR at *
    generalize intsD cs = CS at *
    simp [a_l_line, dropS, ct]
  rw [thn_nx, st1]
  clear st1 ct st0 e
  refine for_rule (R := fun o => ∃ L, (o.thn _).val = R.ok (Val.fr (colsT L)) ∧ Li L rg.length ∧ L.length ≤ 30) (fun i S => ∃ L x7 x8 x9, S = [.fz (.scr ns), .fz (.lst (rgD rg)), .fz (.lst (rowsD rs)), .fz (.int m), x4, x5, .own (colsT L), x7, x8, x9, .no, .no, .no] ∧ (∀ c ∈ L, ColB c rg.length) ∧ L.length = i) ⟨[], _, _, _, rfl, (fun _ h => nomatch h), rfl⟩ ?_ ?_
  · rintro i x S hx ⟨L, x7, x8, x9, rfl, hL, hLl⟩
    have hi' : i < cs.length := by
      have := (List.getElem?_eq_some_iff.mp hx).1
      rwa [intsD_len] at this
    rw [intsD_at hi'] at hx
    have hx := (Option.some.inj hx).symm
    subst hx
    generalize cs[i] = cell
    refine ⟨_, rfl, ?_⟩
    obtain ⟨q, hq, q1, q8⟩ : ∃ q : Nat, (if 8 < m then 8 else m) = (q : Int) ∧ 1 ≤ q ∧ q ≤ 8 := ⟨(if 8 < m then 8 else m).toNat, by split <;> omega, by split <;> omega, by split <;> omega⟩
    have rr : rngD 0 (q : Int) = _ := rng_n (by omega)
    have st2 : exes (mirN defs (k + 3)) b_l_line_2 [.fz (.scr ns), .fz (.lst (rgD rg)), .fz (.lst (rowsD rs)), .fz (.int m), x4, x5, .own (colsT L), .fz (.int cell), x8, x9, .no, .no, .no] = (forL (.one 8) (exes (mirN defs (k + 3)) b_l_line_1) ((List.range q).map fun i => .int (i : Nat)) [.fz (.scr ns), .fz (.lst (rgD rg)), .fz (.lst (rowsD rs)), .fz (.int m), x4, x5, .own (colsT L), .fz (.int cell), x8, x9, .no, .no, .no]).thn (exes (mirN defs (k + 3)) (.cons (.mov 6 9) .nil)) := by
      generalize rgD rg = G at *
      generalize rowsD rs = RR at *
      generalize colsT L = X at *
      simp [b_l_line_2, hq, rr]
    show Turn _ _ (exes (mirN defs (k + 3)) b_l_line_2 [.fz (.scr ns), .fz (.lst (rgD rg)), .fz (.lst (rowsD rs)), .fz (.int m), x4, x5, .own (colsT L), .fz (.int cell), x8, x9, .no, .no, .no])
    rw [st2]
    have mv : ∀ (c : List Int) (x8 : Sl), ColB c rg.length → Turn (fun S => ∃ L x7 x8 x9, S = [.fz (.scr ns), .fz (.lst (rgD rg)), .fz (.lst (rowsD rs)), .fz (.int m), x4, x5, .own (colsT L), x7, x8, x9, .no, .no, .no] ∧ (∀ c ∈ L, ColB c rg.length) ∧ L.length = i + 1) (fun o => ∃ L, (o.thn (exes (mirN defs (k + 3)) (dropS 4 a_l_line.body))).val = R.ok (Val.fr (colsT L)) ∧ Li L rg.length ∧ L.length ≤ 30) ((Out.nx [.fz (.scr ns), .fz (.lst (rgD rg)), .fz (.lst (rowsD rs)), .fz (.int m), x4, x5, .own (colsT L), .fz (.int cell), x8, .own (colsT (L ++ [c])), .no, .no, .no]).thn (exes (mirN defs (k + 3)) (.cons (.mov 6 9) .nil))) := fun c x8 hc => by
      have fin : ∃ L', colsT L' = colsT (L ++ [c]) ∧ (∀ c ∈ L', ColB c rg.length) ∧ L'.length = i + 1 := ⟨L ++ [c], rfl, ColB.snoc hL hc, by rw [List.length_append, hLl]; rfl⟩
      clear hL
      generalize colsT (L ++ [c]) = Y at *
      generalize colsT L = X at *
      generalize rgD rg = G at *
      generalize rowsD rs = RR at *
      obtain ⟨L', e1, e2, e3⟩ := fin
      simp
      exact ⟨L', e1.symm, e2, e3⟩
    refine for_rule (R := fun o => Turn _ _ (o.thn (exes (mirN defs (k + 3)) (.cons (.mov 6 9) .nil)))) (fun j S => ∃ x8 x9, S = [.fz (.scr ns), .fz (.lst (rgD rg)), .fz (.lst (rowsD rs)), .fz (.int m), x4, x5, .own (colsT L), .fz (.int cell), x8, x9, .no, .no, .no] ∧ (0 < j → ∃ c, x9 = .own (colsT (L ++ [c])) ∧ ColB c rg.length)) ⟨_, _, rfl, fun h => absurd h (Nat.lt_irrefl _)⟩ ?_ ?_
    · rintro j x S hx ⟨x8, x9, rfl, _⟩
      obtain ⟨hj, rfl⟩ := rng_get hx
      refine ⟨_, rfl, ?_⟩
      obtain ⟨c, ce, hc⟩ := column_eq1 (k + 2) hf h4 ((cell + (j : Int)) % m)
      have ce : mirN defs (k + 3) "_law_column" [.lst (rgD rg), .int ((cell + (j : Int)) % m)] = _ := ce
      have hLc := ColB.snoc hL hc
      have ra : mirN defs (k + 3) "_law_row_at" [.lst (rgD rg), .lst (rowsD rs), .lst (colsT (L ++ [c])), .int (L.length : Int)] = _ := row_at k rg.length L.length (by omega) rg rs (L ++ [c]) rfl hr (by omega) ⟨by rw [List.length_append, List.length_singleton]; omega, fun c hc => (hLc c hc).col⟩ (by rw [List.length_append, List.length_singleton]; omega)
      obtain ⟨rd, hrd0, hrd⟩ : ∃ rd, oN (pickR (allRows rg rs (L ++ [c])) L.length 0) = rd ∧ (rd = .non ∨ ∃ z, rd = .int z) := ⟨_, rfl, by cases pickR (allRows rg rs (L ++ [c])) L.length 0 with
        | none => exact .inl rfl
        | some z => exact .inr ⟨_, rfl⟩⟩
      rw [hrd0] at ra
      clear hrd0
      have ad : binD .add (.lst (colsT L)) (.lst [.tup (intsD c)]) = .ok (.fr (colsT (L ++ [c]))) := by rw [← colsT_snoc]; exact add_lst (by rw [colsT_len, List.length_singleton]; omega)
      have ll : ((colsT L).length : Int) = (L.length : Int) := by rw [colsT_len]
      have mv' := mv c (.fz (.int (j : Int))) hc
      have m0 : 0 < m := by omega
      have fin : ∃ c', Sl.own (colsT (L ++ [c])) = .own (colsT (L ++ [c'])) ∧ ColB c' rg.length := ⟨c, rfl, hc⟩
      have m64 : m < 18446744073709551616 := by omega
      generalize rgD rg = G at *
      generalize rowsD rs = RR at *
      have go : ∃ b2 : Bool, (exes (mirN defs (k + 3)) b_l_line_1 [.fz (.scr ns), .fz (.lst G), .fz (.lst RR), .fz (.int m), x4, x5, .own (colsT L), .fz (.int cell), .fz (.int (j : Int)), x9, .no, .no, .no]) = if b2 = true then .bk [.fz (.scr ns), .fz (.lst G), .fz (.lst RR), .fz (.int m), x4, x5, .own (colsT L), .fz (.int cell), .fz (.int (j : Int)), .own (colsT (L ++ [c])), .no, .no, .no] else .nx [.fz (.scr ns), .fz (.lst G), .fz (.lst RR), .fz (.int m), x4, x5, .own (colsT L), .fz (.int cell), .fz (.int (j : Int)), .own (colsT (L ++ [c])), .no, .no, .no] := by
        clear mv' fin
        generalize colsT (L ++ [c]) = Y at *
        generalize colsT L = X at *
        generalize intsD c = C at *
        generalize (L.length : Int) = Ll at *
        generalize (j : Int) = jj at *
        by_cases g1 : cell / m % 5 = 4
        · exact ⟨true, by simp [b_l_line_1, m0, m64, ce, ad, g1]⟩
        · rcases hrd with rfl | ⟨z, rfl⟩
          · exact ⟨true, by simp [b_l_line_1, m0, m64, ce, ad, g1, ll, ra]⟩
          · exact ⟨false, by simp [b_l_line_1, m0, m64, ce, ad, g1, ll, ra]⟩
      obtain ⟨b2, go⟩ := go
      show Turn _ _ (exes (mirN defs (k + 3)) b_l_line_1 [.fz (.scr ns), .fz (.lst G), .fz (.lst RR), .fz (.int m), x4, x5, .own (colsT L), .fz (.int cell), .fz (.int (j : Int)), x9, .no, .no, .no])
      rw [go]
      split
      · exact mv'
      · exact ⟨_, _, rfl, fun _ => fin⟩
    · rintro S ⟨x8, x9, rfl, h9⟩
      rw [List.length_map, List.length_range] at h9
      obtain ⟨c, rfl, hc⟩ := h9 (by omega)
      exact mv c x8 hc
  · rintro S ⟨L, x7, x8, x9, rfl, hL, hLl⟩
    rw [intsD_len] at hLl
    have hLi : Li L rg.length := ⟨by omega, fun c hc => (hL c hc).col⟩
    have g13 : mirN defs (k + 3) "_law_got" [.scr ns, .int 13] = _ := gt 13 (by decide)
    generalize gotV ns 13 = cell at g13
    rw [thn_nx]
    by_cases q1 : cell % 2 = 1
    · by_cases q2 : L = []
      · have ne : cmpD .ne (.lst (colsT L)) (.lst []) = .ok false := by rw [ne_lst (clb_colsT L) rfl, decide_eq_true (by rw [q2]; rfl)]; rfl
        refine ⟨L, ?_, hLi, by omega⟩
        generalize colsT L = X at *
        generalize rgD rg = G at *
        generalize rowsD rs = RR at *
        simp [a_l_line, dropS, g13, q1, ne]
      · have ne : cmpD .ne (.lst (colsT L)) (.lst []) = .ok true := by
          rw [ne_lst (clb_colsT L) rfl, decide_eq_false (fun h => q2 (by cases L with
            | nil => rfl
            | cons a r => cases h))]
          rfl
        have lp := List.length_pos_iff.mpr q2
        obtain ⟨a, ea, ha⟩ := mod_nat lp (cell / 2)
        obtain ⟨v, ev, hv⟩ := mod_nat (show 0 < rg.length by omega) (cell / 82)
        have s1 := sub_col ha
        have hc : ColB (colAt L a) rg.length := by rw [colAt_eq ha]; exact hL _ (List.getElem_mem ha)
        generalize colAt L a = c at s1 hc
        have hvc : v < c.length := by rw [hc.len]; exact hv
        have s2 := sub_lst (intsD_at hvc)
        have hx := hc.ok _ (List.getElem_mem hvc)
        generalize c[v] = x at s2 hx
        obtain ⟨d, ed, hd⟩ : ∃ d : Int, subD (.lst [.int 1, .int (-1), .int 2, .int (-2), .int 3, .int (-3)]) (.int (cell / 4 % 6)) = .ok (.int d) ∧ -3 ≤ d ∧ d ≤ 3 := by
          rcases (show cell / 4 % 6 = 0 ∨ cell / 4 % 6 = 1 ∨ cell / 4 % 6 = 2 ∨ cell / 4 % 6 = 3 ∨ cell / 4 % 6 = 4 ∨ cell / 4 % 6 = 5 by omega) with h | h | h | h | h | h <;> rw [h]
          · exact ⟨1, rfl, by decide, by decide⟩
          · exact ⟨-1, rfl, by decide, by decide⟩
          · exact ⟨2, rfl, by decide, by decide⟩
          · exact ⟨-2, rfl, by decide, by decide⟩
          · exact ⟨3, rfl, by decide, by decide⟩
          · exact ⟨-3, rfl, by decide, by decide⟩
        have lL : ((colsT L).length : Int) = (L.length : Int) := by rw [colsT_len]
        have lc : ((intsD c).length : Int) = (rg.length : Int) := by rw [intsD_len, hc.len]
        have p1 : (0 : Int) < (L.length : Int) := by omega
        have p2 : (0 : Int) < (rg.length : Int) := by omega
        have ix1 : ixOf (intsD c).length (v : Int) = some v := ixOf_nat (by rw [intsD_len]; exact hvc)
        have ix2 : ixOf (colsT L).length (a : Int) = some a := ixOf_nat (by rw [colsT_len]; exact ha)
        have st1 : (intsD c).set v (.int (x + d)) = intsD (c.set v (x + d)) := by unfold intsD; rw [List.map_set]
        have st2 := colsT_set L a (c.set v (x + d))
        have hc2 : Col (c.set v (x + d)) rg.length := ⟨by rw [List.length_set]; exact hc.len, fun y hy => by
          rcases List.mem_or_eq_of_mem_set hy with hy | hy
          · have := hc.ok y hy; omega
          · omega⟩
        refine ⟨L.set a (c.set v (x + d)), ?_, ⟨by rw [List.length_set]; omega, fun y hy => by
          rcases List.mem_or_eq_of_mem_set hy with hy | hy
          · exact hLi.ok y hy
          · rw [hy]; exact hc2⟩, by rw [List.length_set]; omega⟩
        clear hL hLi
        generalize colsT (L.set a (c.set v (x + d))) = Y at *
        generalize colsT L = X at *
        generalize intsD (c.set v (x + d)) = C2 at *
        generalize intsD c = C at *
        generalize rgD rg = G at *
        generalize rowsD rs = RR at *
        generalize (L.length : Int) = Ll at *
        generalize (rg.length : Int) = gl at *
        generalize (a : Int) = az at *
        generalize (v : Int) = vz at *
        have os : ∀ n : Nat, optR (some n) R.ok = R.ok n := fun _ => rfl
        simp [a_l_line, dropS, g13, q1, ne, os, lL, p1, ea, s1, lc, p2, ev, s2, ed, ix1, ix2, st1, st2]
    · refine ⟨L, ?_, hLi, by omega⟩
      generalize colsT L = X at *
      generalize rgD rg = G at *
      generalize rowsD rs = RR at *
      simp [a_l_line, dropS, g13, q1]
end Lk23
end
section
set_option maxHeartbeats 2000000
namespace Lk23
open Fv
theorem alike_eq1 (k : Nat) (p : Option (Int × Int)) : mir (k + 1) "_law_alike" [oP p, oP p] = .ok (.d (.bl true)) := by
  refine (mirN_run (d := a_l_alike) rfl _).trans ((run_0 rfl).trans ?_)
  cases p with
  | none => rw [oP_none]; simp [a_l_alike]
  | some p =>
    obtain ⟨a, b⟩ := p
    rw [oP_some]
    have c1 : clb (.tup [.int a, .int b]) = true := rfl
    have eq : cmpD .eq (.tup [.int a, .int b]) (.tup [.int a, .int b]) = .ok true := by
      show (if (clb (.tup [.int a, .int b]) && clb (.tup [.int a, .int b])) = true then R.ok (decide (D.tup [.int a, .int b] = D.tup [.int a, .int b])) else R.bad) = _
      rw [c1, decide_eq_true rfl]
      rfl
    simp [a_l_alike, b_l_alike_0, forL_cons, eq]
theorem made_eq (k : Nat) {n : Nat} (hn : n ≤ 1000) {rs : List Rul} (hr : ∀ r ∈ rs, r.Ok n) (hl : rs.length ≤ 90) (G : List D) (hg : (G.length : Int) = (n : Int)) (s0 s2 s3 s4 s5 s6 s8 s9 : Sl) :
    ∃ X, m1D .split (scoreT [] rs) (.str [10]) = .ok (.fr X) ∧ X.length ≤ 16777216 ∧ compL (.one 7) [s0, .fz (.lst G), s2, s3, s4, s5, s6, .no, s8, s9] (evT (mirN defs (k + 5)) qc_law_0) (elt (mirN defs (k + 5)) q_law_0) X [] = .ok (rulD rs) := by
  cases rs with
  | nil =>
    refine ⟨[.str []], rfl, by decide, ?_⟩
    have z := compL_filter (tg := .one 7) (S := [s0, .fz (.lst G), s2, s3, s4, s5, s6, .no, s8, s9]) (c := evT (mirN defs (k + 5)) qc_law_0) (e := elt (mirN defs (k + 5)) q_law_0) (fun x : D => x) (fun _ => false) (fun x => x) [.str []] [] fun x hx => by
      rw [List.mem_singleton.mp hx]
      have ne : cmpD .ne (.str []) (.str []) = .ok false := by rw [ne_str Pl.nil Pl.nil, decide_eq_true rfl]; rfl
      exact ⟨_, rfl, by simp [qc_law_0, ne], fun h => nomatch h⟩
    exact z
  | cons r0 rs0 =>
    generalize hq : r0 :: rs0 = rs at *
    have ln : 1 ≤ rs.length := by rw [← hq]; simp
    clear hq
    refine ⟨_, score_split (rg := []) hn (fun _ h => nomatch h) hr (by simp; omega) (by simp; omega), by rw [strsD_len, rowsT_len]; simp; omega, ?_⟩
    have e : strsD (rowsT [] rs) = rs.map fun r => .str r.text := by
      unfold rowsT strsD
      rw [List.map_nil, List.nil_append, List.map_map]
      rfl
    rw [e]
    have z := compL_map (tg := .one 7) (S := [s0, .fz (.lst G), s2, s3, s4, s5, s6, .no, s8, s9]) (c := evT (mirN defs (k + 5)) qc_law_0) (e := elt (mirN defs (k + 5)) q_law_0) (fun r : Rul => D.str r.text) (fun r => r.d) rs [] fun r hr' => by
      have ok := hr r hr'
      have ne : cmpD .ne (.str r.text) (.str []) = .ok true := by rw [ne_str (rule_pl hn ok) Pl.nil, decide_eq_false (rule_ne r)]; rfl
      have rd : mirN defs (k + 5) "read_rule" [.str r.text, .int (n : Int)] = _ := read2_eq k n hn r ok
      generalize r.text = T at *
      generalize r.d = rd at *
      exact ⟨_, rfl, by simp [qc_law_0, ne], by simp [q_law_0, hg, rd]⟩
    exact z
theorem law_eq (k : Nat) (ns : List Int) (h : Sc ns) : runA (mir (k + 6)) a_law [.scr ns] = .ok (.d (.bl true)) := by
  obtain ⟨f, rg, ge, hf, n1, n4⟩ := ranges_eq (k + 3) h
  have ge : mirN defs (k + 6) "_law_ranges" [.scr ns] = _ := ge
  obtain ⟨rs, ru, hr, hl, w1, w2⟩ := rules_eq (k + 2) h hf n1 n4
  have ru : mirN defs (k + 6) "_law_rules" [.scr ns, .lst (rgD rg)] = _ := ru
  obtain ⟨L, le, hL, hL30⟩ := line_eq (k + 2) h hf n1 n4 hr hl
  have le : mirN defs (k + 6) "_law_line" [.scr ns, .lst (rgD rg), .lst (rowsD rs)] = _ := le
  have hg := hf.ok
  have te : mirN defs (k + 6) "_law_text" [.lst (rgD rg), .lst (rowsD rs)] = _ := text_eq (k + 5) (show rg.length ≤ 1000 by omega) hg hr (by omega)
  have te0 : mirN defs (k + 6) "_law_text" [.lst [], .lst (rowsD rs)] = _ := text_eq (k + 5) (rg := []) (show rg.length ≤ 1000 by omega) (fun _ h => nomatch h) hr (by simp; omega)
  have re : mirN defs (k + 6) "read" [.str (scoreT rg rs)] = _ := read_eq k hg n1 n4 hr (by omega) w2
  have ii : mirN defs (k + 6) "Score.__init__" [.ins "Score" [] [], .lst (rgD rg), .lst (rulD rs)] = _ := i_Score (k + 5) rg rs
  have nd : newD "Score" (.d (scoD rg rs)) = .ok (.d (scoD rg rs)) := rfl
  have fa : ∀ M, Li M rg.length → mirN defs (k + 6) "fault" [scoD rg rs, .lst (colsT M)] = .ok (.d (oP (faultV rg rs M))) := fun M hM => fault_eq (k + 2) rg.length (by omega) rg rs M rfl hr hM
  have lf : ∀ M, Li M rg.length → mirN defs (k + 6) "_law_fault" [.lst (rgD rg), .lst (rowsD rs), .lst (colsT M)] = .ok (.d (oP (faultV rg rs M))) := fun M hM => lfault_eq (k + 2) rg.length (by omega) rg rs M rfl hr (by omega) hM
  have al : ∀ p, mirN defs (k + 6) "_law_alike" [oP p, oP p] = .ok (.d (.bl true)) := fun p => alike_eq1 (k + 5) p
  have ne : cmpD .ne (.lst (colsT L)) (.lst (colsT L)) = .ok false := by rw [ne_lst (clb_colsT L) (clb_colsT L), decide_eq_true rfl]; rfl
  obtain ⟨X, sp, xl, cm⟩ := made_eq (k + 1) (show rg.length ≤ 1000 by omega) hr (by omega) (rgD rg) (by rw [rgD_len]) (.fz (.scr ns)) (.fz (.lst (rowsD rs))) (.fz (.lst (colsT L))) (.fz (scoD rg rs)) (.fz (.lst (colsT L))) .no .no .no
  have fL := fa L hL
  have lL := lf L hL
  have aL := al (faultV rg rs L)
  have ll : ((colsT L).length : Int) = (L.length : Int) := by rw [colsT_len]
  have xs : ∀ (i : Nat) (x : D), [D.int 0, .int 1, .int ((L.length : Int) / 2), .int (L.length : Int)][i]? = some x → ∃ m : Nat, x = .int (m : Int) := fun i x hx => by
    match i, hx with
    | 0, hx => exact ⟨0, (Option.some.inj hx).symm⟩
    | 1, hx => exact ⟨1, (Option.some.inj hx).symm⟩
    | 2, hx => exact ⟨L.length / 2, (Option.some.inj hx).symm⟩
    | 3, hx => exact ⟨L.length, (Option.some.inj hx).symm⟩
    | n + 4, hx => exact absurd hx (by simp)
  have st0 : exes (mirN defs (k + 6)) a_law.body [.fz (.scr ns), .no, .no, .no, .no, .no, .no, .no, .no, .no] = (forL (.one 8) (exes (mirN defs (k + 6)) b_law_0) [D.int 0, .int 1, .int ((L.length : Int) / 2), .int (L.length : Int)] [.fz (.scr ns), .fz (.lst (rgD rg)), .fz (.lst (rowsD rs)), .fz (.lst (colsT L)), .fz (scoD rg rs), .fz (.lst (colsT L)), .fz (scoD rg rs), .no, .no, .no]).thn (exes (mirN defs (k + 6)) (.cons (.ret (.cst (.bl true))) .nil)) := by
    clear xs al lf fa
    generalize oP (faultV rg rs L) = fv at *
    generalize colsT L = XL at *
    generalize rgD rg = G at *
    generalize rowsD rs = RR at *
    generalize rulD rs = RU at *
    generalize scoD rg rs = sc at *
    generalize scoreT rg rs = T at *
    generalize scoreT [] rs = T0 at *
    generalize (L.length : Int) = Ll at *
    simp [a_law, wipeS, ge, ru, le, te, re, fL, lL, aL, ne, te0, sp, xl, cm, ii, nd, R.noEr, ll]
  show (exes (mirN defs (k + 6)) a_law.body [.fz (.scr ns), .no, .no, .no, .no, .no, .no, .no, .no, .no]).val = _
  rw [st0]
  refine for_rule (R := fun o => (o.thn _).val = R.ok (Val.d (.bl true))) (fun i S => ∃ y z, S = [.fz (.scr ns), .fz (.lst (rgD rg)), .fz (.lst (rowsD rs)), .fz (.lst (colsT L)), .fz (scoD rg rs), .fz (.lst (colsT L)), .fz (scoD rg rs), .no, y, z]) ⟨_, _, rfl⟩ ?_ ?_
  · rintro i x S hx ⟨y, z, rfl⟩
    obtain ⟨m, rfl⟩ := xs i x hx
    refine ⟨_, rfl, ?_⟩
    have sl : slcD (.lst (colsT L)) none (some (m : Int)) = .ok (.fr (colsT (L.take m))) := by rw [slc_lst_to, colsT_take]
    have hM : Li (L.take m) rg.length := hL.take m
    have f1 := fa _ hM
    have f2 := lf _ hM
    have a1 := al (faultV rg rs (L.take m))
    clear xs al lf fa
    generalize oP (faultV rg rs (L.take m)) = fv at *
    generalize colsT (L.take m) = XM at *
    generalize colsT L = XL at *
    generalize rgD rg = G at *
    generalize rowsD rs = RR at *
    generalize rulD rs = RU at *
    generalize scoD rg rs = sc at *
    generalize (m : Int) = mz at *
    simp [b_law_0, sl, f1, f2, a1]
  · rintro S ⟨y, z, rfl⟩
    simp
end Lk23
open PySem
theorem PySem.Challenge.cw_fourvoices_k23_the_fault_of_a_line_holds : PySem.Challenge.rw_fourvoices_k23_the_fault_of_a_line.Holds := by
  exact Lk23.holds fun k ns hl hb => Lk23.law_eq k ns (Fv.script_sc hl hb)
end
