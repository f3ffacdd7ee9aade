import PyProof.Rows.All
import Wide.All
import OpenK.AllK
import Wide.FinOn
import KE.KStateDown
import KE.GoesMore
import Lean
import HandS.Base
import HandS.Call
import HandS.List
import HandS.Comp
import HandS.Ends
import HandS.Dict
import HandS.Iter
import HandS.Text
import HandS.Words
import HandS.WordsList
import HandS.WordsDict
import HandS.WordsExc
import HandS.More
import HandS.DictComp
import HandS.Zip
import HandS.TryMany
import HandS.Wide
import HandS.TupMul
import HandS.TupAny
import HandS.IsInst
import HandS.Exc
import HandS.ExcOwn
import HandS.CallSlots
import HandS.Defaults
import HandS.Style
import HandS.Flow
import HandS.Conv
import HandS.Set
import HandS.SetFor
import HandS.SetTxt0
import HandS.Strs
import HandS.Head0
import HandS.Head1
import HandS.Head2
import HandS.HeadEnd
import HandS.HeadHook1
import HandS.HeadHook2
import KE.DataEq
import KE.LtData
import KE.DataCmp
import KE.DataAny
import KE.SortData
import KE.KDictPairs
import KE.KDictZip
import HandS.ExcIs
import HandS.ExcInit
import HandS.ExcField
import HandS.RaiseMore
import HandS.TupSets
import KE.KExcSuper
import PySem.Challenge.RW_pathstrue_k41_whole_texts_of_tests
set_option Elab.async false
set_option linter.all false
set_option maxRecDepth 100000
set_option maxHeartbeats 0
set_option autoImplicit false
namespace Mp
open PySem PySem.Spec PyProof.Rows L2
/-! ## tuples whose object is known to have no dict -/
/-- a tuple, its object without a dict -/
def TupN (H : Hp) (a : Addr) (xs : List V) : Prop := ∃ q : Obj, H a = some (.frz q (.tup xs)) ∧ q.dict = none
theorem TupN.rd {H : Hp} {a : Addr} {xs : List V} (h : TupN H a xs) : Rd H a (.tup xs) := let ⟨q, e, _⟩ := h; .inr ⟨q, e⟩
/-- a new tuple is wanted -/
def Fz (H : Hp) (Q : VK) (xs : List V) : Prop := ∀ p q, H p = none → q.dict = none → Q (.ref p) (upd H p (.frz q (.tup xs)))
section
variable {X : Cx} {pins : List (Addr × Obj)} {σ : L2.St} {H : Hp} {s : Shared} {Q : VK}
theorem fz_ep {xs : List V} {ws : Array Value} (I : Inv X pins σ H s) (r : Vals xs ws.toList) (z : xs.length ≤ sizeLine) (q : Fz H Q xs) : EP X pins σ Q (.ref s.heap.objs.size) { s with heap := s.heap.push { cls := .type "tuple", data := .seq ws } } := by
  have g : (s.heap.push { cls := .type "tuple", data := .seq ws }).get? s.heap.objs.size = some { cls := .type "tuple", data := .seq ws } := Heap.get?_push_size _ rfl
  refine ⟨.ref s.heap.objs.size, upd H s.heap.objs.size (.frz { cls := .type "tuple", data := .seq ws } (.tup xs)), I.laid (t' := s.toks) (fun b u e => Heap.get?_push_of_some _ e) (Nat.le_refl _) ?_, rfl, q _ _ (I.hok.fresh (Nat.le_refl _)) rfl⟩
  exact ⟨g, z, ws.toList, r, by rw [Array.toArray_toList]; exact ⟨_, g, rfl, _, rfl⟩⟩
/-! ### displays -/
def tTupN (t : TA) : TE := fun σ H Q => t σ H fun xs H1 => xs.length ≤ sizeLine ∧ Fz H1 Q xs
theorem pe_tupN {es : List Expr} {x1 : Nat} {pos : Pos} {t : TA} (h : PA X es t) : PE X (.Tuple es x1 pos) (tTupN t) :=
  ⟨fun pins s σ H Q I w => wpAny_Tuple_spliced (thn (h.run pos pins s σ H _ I w) fun us s1 ⟨xs, H1, I1, r, z, q⟩ => ⟨by rw [← r.length]; exact z, fz_ep (ws := us.toArray) I1 (by simpa using r) z q⟩)⟩
end
section
variable {X : Cx}
/-! ### + -/
def rCatN (K : PySem.W.Frag) : R2 := fun x y H Q => ∃ a b xs ys, (x = .ref a ∧ y = .ref b) ∧ (SqT K H a xs ∧ SqT K H b ys) ∧ xs.length + ys.length ≤ sizeLine ∧ (xs = [] → Q (.ref b) H) ∧ (xs ≠ [] → ys = [] → Q (.ref a) H) ∧ (xs ≠ [] → ys ≠ [] → Fz H Q (xs ++ ys))
theorem vals_nil {xs : List V} {us : List Value} (r : Vals xs us) : us = [] ↔ xs = [] := by
  cases r <;> simp
theorem op_catN : OpR X (binaryOp .Add) (rCatN X.K) := by
  intro pins s σ H x y v u Q I rx ry ⟨a, b, xs, ys, ⟨ex, ey⟩, ⟨ta, tb⟩, z, q0, q1, q2⟩
  subst ex ey
  cases rx
  cases ry
  obtain ⟨i1, r1, p1, _⟩ := I.tuple ta
  obtain ⟨i2, r2, p2, _⟩ := I.tuple tb
  by_cases e : xs = []
  · subst e
    cases r1
    exact cat_tup0 p1 p2 ⟨.ref b, H, I, rfl, q0 rfl⟩
  · refine HT.cat_tup p1 p2 (fun w => e ((vals_nil r1).mp w)) (fun w => ⟨.ref a, H, I, rfl, q1 e ((vals_nil r2).mp w)⟩) (fun w => ?_) (by rw [← r1.length, ← r2.length]; exact z)
    exact fz_ep (ws := (i1 ++ i2).toArray) I (by simpa using r1.append r2) (by rw [List.length_append]; exact z) (q2 e fun w' => w ((vals_nil r2).mpr w'))
/-! ### slices -/
def rSlN (K : PySem.W.Frag) : V → Option Int → Option Int → Hp → VK → Prop := fun x lo hi H Q => ∃ a xs, (x = .ref a ∧ SqT K H a xs) ∧
  (HT.sIx xs.length 0 lo = 0 ∧ HT.sIx xs.length xs.length hi = xs.length → Q (.ref a) H) ∧ (¬ (HT.sIx xs.length 0 lo = 0 ∧ HT.sIx xs.length xs.length hi = xs.length) → Fz H Q (cutV xs lo hi))
theorem sl_tupN : SlR X (rSlN X.K) := by
  intro pins s σ H x v vl vu lo hi sl Q I rx hs pl pu ⟨a, xs, ⟨ex, hx⟩, q1, q2⟩
  subst ex
  cases rx
  obtain ⟨is, r, ht, hz⟩ := I.tuple hx
  have el : is.toArray.size = xs.length := (List.size_toArray (as := is)).trans r.length.symm
  refine ⟨"tuple", _, slot_tuple_getitem.lookup, ht.typeIs, ?_⟩
  by_cases w : HT.sIx xs.length 0 lo = 0 ∧ HT.sIx xs.length xs.length hi = xs.length
  · exact getItem_tuple_whole ht hs pl pu (el.symm ▸ w) ⟨.ref a, H, I, rfl, q1 w⟩
  · refine HT.getItem_tuple_cut ht hs pl pu (el.symm ▸ w) ?_ (el.symm ▸ hz)
    rw [el]
    refine fz_ep I ?_ (Nat.le_trans (cutV_length xs lo hi) hz) (q2 w)
    have rr := (r.drop (HT.sIx xs.length 0 lo)).take (HT.sIx xs.length xs.length hi - HT.sIx xs.length 0 lo)
    simpa [cutV] using rr
/-! ### tuple(..) -/
def rTupN (K : PySem.W.Frag) : List V → Hp → VK → Prop := fun xs H Q => ∃ p ys, xs = [.ref p] ∧ ((SqL K H p ys ∧ Fz H Q ys) ∨ (SqT K H p ys ∧ Q (.ref p) H))
theorem call_tupN : CallR X (.type "tuple") (rTupN X.K) := by
  intro pins s σ H vs us Q I r ⟨p, ys, e, q⟩
  subst e
  obtain ⟨u, eu, ru⟩ := vals1 r
  subst eu
  cases ru
  rcases q with ⟨h, q⟩ | ⟨h, q⟩
  · obtain ⟨is, rv, pl, z⟩ := I.list h
    refine call_tuple_list pl.isList (fun h2 k => ?_) (by rw [List.size_toArray, ← rv.length]; exact z)
    exact fz_ep (s := { s with heap := h2 }) (ws := is.toArray) (I.kept (t' := s.toks) k) (by simpa using rv) z q
  · obtain ⟨is, _, pl, _⟩ := I.tuple h
    exact call_tuple_tup pl ⟨.ref p, H, I, rfl, q⟩
/-! ### * -/
def rRepN (K : PySem.W.Frag) : R2 := fun x y H Q => ∃ l k xs, (x = .ref l ∧ y = .int k) ∧ SqT K H l xs ∧ xs ≠ [] ∧ (2 ≤ k ∧ k ≤ 1000) ∧ xs.length ≤ 1000 ∧ Fz H Q (List.replicate k.toNat xs).flatten
theorem op_repN : OpR X (binaryOp .Mult) (rRepN X.K) := by
  intro pins s σ H x y v u Q I rx ry ⟨l, k, xs, ⟨ex, ey⟩, hT, hne, ⟨k1, k2⟩, hz, q⟩
  subst ex ey
  cases rx
  obtain ⟨t, rfl⟩ := ry
  obtain ⟨is, r, ⟨⟨cls, dd, data, sl⟩, ho, hc, n, hd⟩, hs⟩ := I.tuple hT
  dsimp only at hc hd
  subst hc hd
  have hl : is.toArray.size = xs.length := (List.size_toArray (as := is)).trans r.length.symm
  have he : is.toArray.isEmpty = false := by
    cases r with
    | nil => exact absurd rfl hne
    | cons _ _ => rfl
  have hk0 : 0 ≤ k := by omega
  have hm : ((is.toArray.size : Nat) : Int) * k ≤ 1000000 := by
    rw [hl]
    exact Int.le_trans (Int.mul_le_mul_of_nonneg_right (b := 1000) (by omega) hk0) (by omega)
  have fl : (List.replicate k.toNat is).flatten.length ≤ sizeLine := by
    rw [PyProof.Rows.lm_len_rep_flat, ← r.length, sizeLine_eq]
    exact Nat.le_trans (Nat.mul_le_mul (show k.toNat ≤ 1000 by omega) hz) (by decide)
  have es := size_rep is k.toNat
  have fv : ∀ m : Nat, Vals (List.replicate m xs).flatten (List.replicate m is).flatten := fun m => by
    induction m with
    | zero => exact .nil
    | succ m ih => simpa [List.replicate_succ] using r.append ih
  have b0 : (decide (k < -(2 ^ 63)) || decide (k ≥ 2 ^ 63)) = false := by
    simp only [Bool.or_eq_false_iff, decide_eq_false_iff_not]
    omega
  have b1 : (is.toArray.isEmpty || k == 1) = false := by
    simp only [he, Bool.false_or, beq_eq_false_iff_ne]
    omega
  have b2 : (decide (k ≤ 0) || is.toArray.isEmpty) = false := by
    simp only [he, Bool.or_false, decide_eq_false_iff_not]
    omega
  have b3 : ¬ ((is.toArray.size : Nat) : Int) * k > (2 ^ 63 - 1) / 8 := by omega
  have b4 : Builtin.Tuple.tupleTooMany (((is.toArray.size : Nat) : Int) * k) = false := by
    unfold Builtin.Tuple.tupleTooMany
    simp only [decide_eq_false_iff_not]
    rw [sizeLine_eq]
    omega
  have mw := tuple_mulW l is.toArray n dd sl k t b0 b1 b2 b3 b4 (by rw [es, List.size_toArray]; exact fl)
  have fin : EP X pins σ Q (.ref s.heap.objs.size) { s with heap := s.heap.push { cls := .type "tuple", data := .seq (List.foldl (fun x1 x2 => x1 ++ x2) #[] (List.replicate k.toNat is.toArray)) } } := by
    rw [es]
    refine fz_ep I (by simpa using fv k.toNat) ?_ q
    rw [(fv k.toNat).length]
    exact fl
  have c2 := call_meets (prog := X.prog) (w := X.w) (A := X.A) (E := X.xe) (Q := EP X pins σ Q) (s := s) F.slot_tuple_mul (self := .ref l) ⟨_, ho, rfl⟩ F.entry_tuple_mul (F.args_tuple_mul_2 _ _) mw ⟨ho, fin⟩
  refine wpAny_binaryOp_repeat_ref (T := "tuple") (by decide) ⟨_, ho, rfl⟩ (U := "int") (fun z => typeIs_int z k t) noFill_tuple_mul F.fills_int_mul F.slot_int_rmul
    repeat_tuple F.slot_int_index.lookup ?_
  exact call_meets F.slot_int_rmul (typeIs_int s k t) F.entry_int_rmul (F.args_int_rmul_2 _ _) (int_rmul_tuple k t l is.toArray n dd sl) ⟨ho, rfl, ⟨_, ho, rfl⟩, c2⟩
end
end Mp
namespace Mp
open PySem PySem.Spec PyProof.Rows L2
/-! ## sets of texts: set(list), len, sorted -/
/-- a set that holds the texts l, each once -/
def TxS (P : Program) (w : World) (h : Heap) (a : Addr) (l : List Str) : Prop := ∃ D : PySem.Froz.SD, h.get? a = some (PySem.Froz.sObj "set" D) ∧ PySem.Froz.TxOk P w D l ∧ l.Nodup ∧ Ris D.2.2.place.toList ∧ (w.params.followText "set-order" = true ∨ D.2.2.led = true)
section
variable {P : Program} {w : World} {A : Around} {E : Value → Shared → Prop} {s : Shared} {h h' : Heap} {a : Addr} {l : List Str}
theorem TxS.at (R : TxS P w h a l) (k : ∀ o, h.get? a = some o → h'.get? a = some o) : TxS P w h' a l := by
  obtain ⟨D, ho, r⟩ := R
  exact ⟨D, k _ ho, r⟩
theorem tail_ris {ep : Nat} {es : Array (Int × Value)} {t : SetTable} {b : Bool} (hr : Ris t.place.toList) (hl : w.params.followText "set-order" = true ∨ t.led = true) :
    Ris (PySem.Froz.tailTx ep es t b).2.2.place.toList ∧ (w.params.followText "set-order" = true ∨ (PySem.Froz.tailTx ep es t b).2.2.led = true) := by
  unfold PySem.Froz.tailTx
  split
  · exact ⟨relayAll_ris t es _, hl.imp id fun z => (relayAll_led t es _).trans z⟩
  · exact ⟨hr, hl⟩
theorem addTx_ris {D : PySem.Froz.SD} {n : Int} {v : Value} (hr : Ris D.2.2.place.toList) (hl : w.params.followText "set-order" = true ∨ D.2.2.led = true) :
    Ris (PySem.Froz.addTx n v D).2.2.place.toList ∧ (w.params.followText "set-order" = true ∨ (PySem.Froz.addTx n v D).2.2.led = true) := by
  unfold PySem.Froz.addTx
  have h1 := layNew_ris D.2.2 D.1 n v hr
  have h2 : w.params.followText "set-order" = true ∨ (layNew D.2.2 D.1 n v).2.1.led = true := hl.imp id fun z => (layNew_led D.2.2 D.1 n v).trans z
  refine tail_ris ?_ ?_
  · split
    · exact h1
    · exact h1
  · split
    · exact h2
    · exact h2
/-- one more text, or one that is there -/
theorem txS_add {k : Str} {u : Tok} {Q : Bool → Shared → Prop} (R : TxS P w s.heap a l) (room : l.length + 1 < scanBound)
    (hQ : ∀ b h', Heap.SameBut a s.heap h' → TxS P w h' a (if k ∈ l then l else k :: l) → Q b { s with heap := h' }) : wpAny (model P w) A (setAddHashed a (.str k u) (hashStr w k)) Q E s := by
  obtain ⟨D, ho, F, nd, hr, hl⟩ := R
  by_cases hk : k ∈ l
  · have hq := hQ false s.heap (Heap.SameBut.refl a s.heap) (by rw [if_pos hk]; exact ⟨D, ho, F, nd, hr, hl⟩)
    obtain ⟨es, ep, t⟩ := D
    have hkey : (strKind P w).is k (.str k u) = true := PySem.Froz.is_str k u
    have hsz : es.size = l.length := F.sz
    have hb0 : es.size < scanBound := by omega
    have hd : (PySem.Froz.sObj "set" (es, ep, t)).data = .set es ep t := rfl
    unfold setAddHashed setAddHashedIn
    refine wpAny_holding (wpAny_bind (wpAny_setState_of ho hd F.fit ?_))
    dsimp only
    rw [byScan_of rfl hb0 F.el]
    simp only [↓reduceIte]
    unfold setAddByScan
    refine wpAny_bind ?_
    refine wpAny_bind (wpAny_rule ?_)
    refine wpAny_bind (wpAny_setScan_of (knd := strKind P w) (k := k) hkey ho hd F.fit F.el ?_)
    obtain ⟨e, he, q⟩ := (F.mem k).mp hk
    cases hfi : List.findIdx? (fun e => (strKind P w).is k e.2) es.toList with
    | none =>
      have c := List.findIdx?_eq_none_iff.mp hfi e he
      rw [q] at c
      cases c
    | some j =>
      dsimp only
      exact wpAny_pure (wpAny_pure hq)
  · obtain ⟨r1, r2⟩ := addTx_ris (w := w) (n := hashStr w k) (v := .str k u) hr hl
    refine PySem.Froz.add_x ho F hk room (hQ true _ (Heap.SameBut.update s.heap a _) ?_)
    rw [if_neg hk]
    exact ⟨_, PySem.Froz.get_upd _ ho rfl, PySem.Froz.add_ok u F, List.nodup_cons.mpr ⟨hk, nd⟩, r1, r2⟩
/-- the set as it is laid -/
abbrev set0 (w : World) : Obj := { cls := .type "set", dict := none, data := .set #[] 0 (.fresh 0 0 (!w.params.followText "set-order")) }
theorem txS_new {h : Heap} {a : Addr} (ho : h.get? a = some (set0 w)) : TxS P w h a [] := by
  refine ⟨(#[], 0, .fresh 0 0 (!w.params.followText "set-order")), ho, PySem.Froz.TxOk.nil rfl, List.nodup_nil, List.Pairwise.nil, ?_⟩
  cases e : w.params.followText "set-order"
  · exact .inr rfl
  · exact .inl rfl
theorem txS_update {I : Addr} {fp wr : List Addr} {G : Array GenState → Array GenState → Prop} {n : Nat} {Pv : Nat → Value → Prop} {St : Nat → Shared → Prop} {R : Result → Shared → Prop}
    (W : WalksS P w A.in1 I fp wr G n Pv St) (S : Addr) (hSf : S ∉ fp) (ns : List Str) (hn : n = ns.length) (hb : ns.length + 1 < scanBound) (hval : ∀ i v, Pv i v → ∃ k t, ns[i]? = some k ∧ v = .str k t) :
    ∀ (k i : Nat) (s : Shared), n - i = k → i ≤ n → St i s → (∃ l, (∀ x, x ∈ l ↔ x ∈ ns.take i) ∧ l.length ≤ i ∧ TxS P w s.heap S l) →
      (∀ s' l, Moved (S :: wr) G s s' → (∀ x, x ∈ l ↔ x ∈ ns) → TxS P w s'.heap S l → R (.ok (.ret .none)) s') →
      codeAny (model P w) A (.builtin "set.update.loop" ⟨[.ref S, .ref I], []⟩) R s := by
  have hSw : S ∉ wr := fun h => hSf (W.sub _ h)
  have hsub : ∀ b ∈ wr, b ∈ S :: wr := fun b hb => List.mem_cons_of_mem _ hb
  intro k
  induction k with
  | zero =>
    intro i s hk' hi hst ⟨l, hm0, hc, hS⟩ hR
    have hin : i = n := by omega
    subst hin
    refine codeAny_builtin F.entry_set_update_loop ?_
    rw [Around.under_plainId F.plain_set_update_loop _]
    show wpAny _ A.in1 (pyNext (.ref I) >>= _) _ _ s
    refine wpAny_bind (W.done s _ _ hst fun s' hm => ?_)
    show wpAny _ A.in1 (ret Value.none) _ _ s'
    rw [List.take_of_length_le (by omega)] at hm0
    exact wpAny_pure (hR s' l (hm.mono hsub) hm0 (hS.at fun o e => hm.heap S o hSw e))
  | succ k ih =>
    intro i s hk' hi hst ⟨l, hm0, hc, hS⟩ hR
    have hlt : i < n := by omega
    refine codeAny_builtin F.entry_set_update_loop ?_
    rw [Around.under_plainId F.plain_set_update_loop _]
    show wpAny _ A.in1 (pyNext (.ref I) >>= _) _ _ s
    refine wpAny_bind (W.item i s _ _ hlt hst fun v s' hP hst' hm => ?_)
    obtain ⟨z, t, hz, rfl⟩ := hval i v hP
    have hS' : TxS P w s'.heap S l := hS.at fun o e => hm.heap S o hSw e
    show wpAny _ A.in1 (holding [Value.str z t] (setAdd S (.str z t)) >>= _) _ _ s'
    refine wpAny_bind (wpAny_holding ?_)
    unfold setAdd
    refine wpAny_holding ?_
    refine wpAny_bind ((strKind P w).pyHash (k := z) (PySem.Froz.is_str _ _) ?_)
    refine txS_add (s := { s' with toks := s'.toks + 1 }) hS' (by omega) fun b h' hsb hS2 => ?_
    have hm3 : ∀ x, x ∈ (if z ∈ l then l else z :: l) ↔ x ∈ ns.take (i + 1) := fun x => by
      rw [List.take_add_one, hz]
      simp only [Option.toList_some, List.mem_append, List.mem_singleton, ← hm0 x]
      split
      · rename_i hz
        exact ⟨.inl, fun z => z.elim id fun e => by rw [e]; exact hz⟩
      · rw [List.mem_cons]
        exact Or.comm
    have hc3 : (if z ∈ l then l else z :: l).length ≤ i + 1 := by
      split
      · omega
      · rw [List.length_cons]; omega
    refine wpAny_pure ⟨plainId_quiet F.plain_set_update_loop _, ih (i + 1) _ (by omega) hlt (W.frame _ s' _ _ hst' (Nat.le_succ _) fun b hb o e => ?_) ⟨_, hm3, hc3, hS2⟩ fun s'' l2 hm'' hc'' hS'' => ?_⟩
    · rw [hsb.2 b (fun h : b = S => hSf (by rw [← h]; exact hb))]; exact e
    · refine hR s'' l2 (Moved.trans W.gtrans ((hm.mono hsub).then_heap (Nat.le_succ _) fun b o hb e => ?_) hm'') hc'' hS''
      rw [hsb.2 b (fun h : b = S => hb (by rw [h]; exact List.mem_cons_self))]; exact e
end
section
variable {P : Program} {w : World} {A : Around} {E : Value → Shared → Prop} {s : Shared}
/-- behind set(..): a set with just these texts stands at S, all else is as it was -/
def Filled (P : Program) (w : World) (s : Shared) (ns : List Str) (s' : Shared) : Prop := ∃ (h' : Heap) (tk : Nat) (xs : List Str), s' = { s with heap := h', toks := tk } ∧ TxS P w h' s.heap.objs.size xs ∧ (∀ x, x ∈ xs ↔ x ∈ ns) ∧ ∀ b o, s.heap.get? b = some o → h'.get? b = some o
/-- a new set, not yet filled -/
abbrev laid (w : World) (s : Shared) : Shared := { s with heap := s.heap.push (set0 w) }
set_option maxHeartbeats 6400000 in
/-- filling it -/
theorem init_setTx {l : Addr} {items : Array Value} {ns : List Str} (hh : A.handled = none) (hl : s.heap.IsList l items) (hit : StrsAre items.toList ns) (hb : ns.length + 1 < scanBound) (hT : (laid w s).TypeIs (.ref s.heap.objs.size) "set") :
    codeAny (model P w) A (.call (.builtin "set.__init__") ⟨[.ref s.heap.objs.size, .ref l], []⟩) (wants (fun r s₂ => r = .none ∧ Filled P w s ns s₂) E) (laid w s) := by
  have sz : items.size = ns.length := (Array.length_toList ..).symm.trans (StrsAre.len_eq hit)
  refine codeAny_call_builtin F.called_set.init.plain F.entry_set_init (check_set_init_1 hT ?_)
  obtain ⟨⟨cl, di, da, sl⟩, at_l, e1, k, e2⟩ := hl
  obtain rfl : cl = _ := e1
  obtain rfl : da = _ := e2
  have lt_l : l < s.heap.objs.size := Heap.lt_size at_l
  have on : (s.heap.push (set0 w)).IsList l items := ⟨_, Heap.get?_push_of_some _ at_l, rfl, k, rfl⟩
  have n1 : (s.heap.push (set0 w)).objs.size = s.heap.objs.size + 1 := Heap.size_push ..
  have away : l ≠ (s.heap.push (set0 w)).objs.size := Nat.ne_of_lt (n1 ▸ Nat.lt_succ_of_lt lt_l)
  have out : s.heap.objs.size ∉ [(s.heap.push (set0 w)).objs.size, l] := fun z => by
    rcases List.mem_cons.mp z with z | z
    · exact Nat.ne_of_lt (n1 ▸ Nat.lt_succ_self _) z
    · exact Nat.ne_of_gt lt_l (List.mem_singleton.mp z)
  have s1 := PySem.F.sub_list_set
  have s2 := PySem.F.sub_list_frozenset
  have s3 : (Value.type "list" == Value.type "dict") = false := by decide
  have s4 := Heap.get?_push_of_some (set0 w) at_l
  unfold Builtin.«set.__init__» noKeywords Builtin.Frozenset.updateFrom
  generalize hold : pyIter = it
  wp_walk
  subst hold
  refine wpAny_pyIter_list on (wpAny_bind (wpAny_runValue ?_))
  refine txS_update (P := P) (w := w) (Walks.list (by simp [hh]) _ l away items).toS s.heap.objs.size out ns sz hb (fun i v hv => ?val) (items.size - 0) 0 _ (by omega) (Nat.zero_le _) ⟨⟨_, Heap.get?_push_size _ rfl, rfl, rfl⟩, on.push _⟩ ⟨[], fun x => by simp, Nat.le_refl 0, txS_new (Heap.get?_push_of_some _ (Heap.get?_push_size _ rfl))⟩ fun s' xs hm hx hS => ?fin
  case val =>
    have hi : i < ns.length := sz ▸ (Array.getElem?_eq_some_iff.mp hv).1
    obtain ⟨t, e⟩ := SS.strs_at hit i v (by rw [Array.getElem?_toList]; exact hv)
    exact ⟨ns[i], t, List.getElem?_eq_getElem hi, by rw [e, List.getD_eq_getElem?_getD, List.getElem?_eq_getElem hi] <;> rfl⟩
  case fin =>
    refine wpAny_pure (wpAny_pure ⟨rfl, s'.heap, s'.toks, xs, ?_, hS, hx, fun b o e => ?_⟩)
    · have q1 := hm.gens
      have q2 := hm.drawn
      have q3 := hm.os
      cases s'
      cases q1
      cases q2
      cases q3
      rfl
    · have lt_b : b < s.heap.objs.size := Heap.lt_size e
      exact hm.heap b o (fun z => by
        rcases List.mem_cons.mp z with z | z
        · exact Nat.ne_of_lt lt_b z
        · exact Nat.ne_of_lt (n1 ▸ Nat.lt_succ_of_lt lt_b) (List.mem_singleton.mp z)) (Heap.get?_push_of_some _ (Heap.get?_push_of_some _ e))
set_option maxHeartbeats 6400000 in
theorem call_setTx {l : Addr} {items : Array Value} (ns : List Str) {Q : Value → Shared → Prop} (hh : A.handled = none) (hl : s.heap.IsList l items) (hit : StrsAre items.toList ns) (hb : ns.length + 1 < scanBound)
    (h : ∀ (h' : Heap) (tk : Nat) (xs : List Str), TxS P w h' s.heap.objs.size xs → (∀ x, x ∈ xs ↔ x ∈ ns) → (∀ b o, s.heap.get? b = some o → h'.get? b = some o) → Q (.ref s.heap.objs.size) { s with heap := h', toks := tk }) :
    wpAny (model P w) A (call (.type "set") [.ref l]) Q E s := by
  have t1 := F.called_set.made
  have t2 := F.called_set.sub
  have t3 := F.called_set.notType
  have t4 := F.called_set.canCreate
  have t5 := F.typeCall_set_1 (.ref l)
  obtain ⟨_, _, t6⟩ := F.called_set.mro
  refine wpAny_call (codeAny_of_tree (show wpAny _ _ (callAny (.type "set") _) _ _ _ from wpAny_pure ⟨Code.quiet_builtin _ (by decide +kernel), codeAny_builtin F.entry_type_call ?_⟩))
  rw [Around.under_plain (weight_type_call_type "set" [.ref l] []) rfl]
  repeat (any_goals (first | assumption | wp_step))
  refine codeAny_mono (code_set_led1 (.ref l) (E := E) (Q₁ := fun obj s₁ => obj = .ref s.heap.objs.size ∧ s₁ = laid w s) ⟨rfl, rfl⟩) ?_
  rintro (e | (_ | obj | _ | _)) s₁ hr <;> first | exact hr | exact hr.elim | skip
  obtain ⟨rfl, rfl⟩ := hr
  have hT : (laid w s).TypeIs (.ref s.heap.objs.size) "set" := ⟨_, Heap.get?_push_size _ rfl, rfl⟩
  have u1 := F.called_set.init.lookup
  have u2 := F.called_set.init.bind (.ref s.heap.objs.size)
  repeat (any_goals (first | assumption | wp_step))
  refine codeAny_mono (init_setTx (P := P) (w := w) (E := E) (by simp [hh]) hl hit hb hT) ?_
  rintro (e | (_ | r | _ | _)) s₂ hr <;> first | exact hr | exact hr.elim | skip
  obtain ⟨rfl, h', tk, xs, rfl, g1, g2, g3⟩ := hr
  repeat (any_goals (first | assumption | wp_step))
  exact h _ _ _ g1 g2 g3
theorem strs_of : ∀ (l : List Value), (∀ v ∈ l, ∃ k tk, v = Value.str k tk) → ∃ ss, StrsAre l ss
  | [], _ => ⟨[], .nil⟩
  | v :: l, h => by
    obtain ⟨k, tk, rfl⟩ := h v List.mem_cons_self
    obtain ⟨ss, q⟩ := strs_of l fun u hu => h u (List.mem_cons_of_mem _ hu)
    exact ⟨k :: ss, .cons k tk q⟩
theorem strs_mem : ∀ {l : List Value} {ss : List Str}, StrsAre l ss → ∀ {k : Str} {t : Tok}, Value.str k t ∈ l → k ∈ ss
  | _, _, .nil, _, _, h => by cases h
  | _, _, .cons n t r, k, t', h => by
    rcases List.mem_cons.mp h with h | h
    · cases h
      exact List.mem_cons_self ..
    · exact List.mem_cons_of_mem _ (strs_mem r h)
theorem perm_of_sub : ∀ {xs ss : List Str}, xs.Nodup → (∀ k ∈ xs, k ∈ ss) → ss.length = xs.length → ss.Perm xs
  | [], ss, _, _, hl => by
    rw [List.length_eq_zero_iff.mp hl]
  | x :: xs, ss, hn, hs, hl => by
    obtain ⟨h1, h2⟩ := List.nodup_cons.mp hn
    have hx := hs x (List.mem_cons_self ..)
    refine (List.perm_cons_erase hx).trans (List.Perm.cons x (perm_of_sub h2 (fun k hk => (List.mem_erase_of_ne (fun e => h1 (by rw [← e]; exact hk))).mpr (hs k (List.mem_cons_of_mem _ hk))) ?_))
    rw [List.length_erase_of_mem hx, hl]
    rfl
theorem sorted_setTx {a : Addr} {xs : List Str} {Q : Value → Shared → Prop} (R : TxS P w s.heap a xs) (hh : A.handled = none) (h64 : xs.length < 64)
    (hQ : ∀ s' p (out : Array Value) (c : Nat) (ys : List Str), (∀ b o, s.heap.get? b = some o → s'.heap.get? b = some o) → s'.gens = s.gens → s'.os = s.os → s.heap.objs.size ≤ p →
      s'.heap.get? p = some (seqObj "list" out c) → StrsAre out.toList ys → ys.Perm xs → sortedS ys = true → Q (.ref p) s') :
    wpAny (model P w) A (call (.builtin "sorted") [.ref a]) Q E s := by
  obtain ⟨D, ho, F, nd, hr, hl⟩ := R
  obtain ⟨es, ep, t⟩ := D
  have hsz : es.size = xs.length := F.sz
  refine Calls.call_function_entry kind_sorted plain_sorted entry_sorted (args_sorted1 _) ?_
  unfold Builtin.«sorted»
  refine wpAny_bind (m := checkCount "sorted" 1 1 _) (wpAny_pure ?_)
  refine wpAny_bind (collect_set (A := A.in1) hh ⟨_, ho, rfl, rfl⟩ F.fit (by have := hsz; show es.size < scanBound; unfold scanBound; omega) hr hl fun s1 vs k1 hz g1 o1 pm => ?_)
  have hvl : vs.length = xs.length := by rw [pm.length_eq, List.length_map, Array.length_toList]; exact hsz
  obtain ⟨ss, hS⟩ := strs_of vs fun v hv => by
    obtain ⟨e, he, q⟩ := List.mem_map.mp (pm.mem_iff.mp hv)
    obtain ⟨⟨k, h1, _⟩, _⟩ := F.el e he
    rw [← q]
    obtain ⟨t, e1⟩ := Value.isStrOf_shape h1
    exact ⟨k, t, e1⟩
  have pss : ss.Perm xs := by
    refine perm_of_sub nd (fun k hk => ?_) (by rw [← hvl]; exact (StrsAre.len_eq hS).symm)
    obtain ⟨e, he, q⟩ := (F.mem k).mp hk
    obtain ⟨t, e1⟩ := Value.isStrOf_shape q
    exact strs_mem hS (pm.mem_iff.mpr (List.mem_map.mpr ⟨e, he, e1⟩))
  refine wpAny_bind (wpAny_newList ?_ (by rw [hvl, sizeLine_eq]; omega))
  have hoL : (s1.heap.push (seqObj "list" vs.toArray 0)).get? s1.heap.objs.size = some (seqObj "list" vs.toArray 0) := Heap.get?_push_size _ rfl
  refine wpAny_bind (wpAny_holding (wpAny_call_entry slot_list_sort ⟨_, hoL, rfl⟩ entry_list_sort (list_sort_treeK strKind_oneLt hoL hS.keysOf (fun v₁ v₂ rest e => keyKind_strs (by rw [← e]; exact hS)) (by rw [hvl]; exact h64) fun st' hp hs => ⟨_, rfl, ?_⟩) (args_list_sort _)))
  obtain ⟨ys, a1, a2, a3⟩ := sorted_out_str hS hp hs
  obtain ⟨c, hc⟩ := sortedHeap_at (vs := vs) (out := (arrOf st').map (·.2)) hoL
  refine wpAny_pure ⟨_, rfl, hQ _ s1.heap.objs.size _ c ys (fun b u e => ?_) g1 o1 hz hc a1 (a2.trans pss) a3⟩
  have q := k1 b u e
  have hlt := Heap.lt_size q
  show (sortedHeap (s1.heap.push (seqObj "list" vs.toArray 0)) s1.heap.objs.size vs _).get? b = some u
  rw [sortedHeap_old (Nat.ne_of_lt hlt) (by rw [size_push']; exact Nat.lt_succ_of_lt hlt)]
  exact Heap.get?_push_of_some _ q
end
/-- len(set(xs)), sorted(set(xs)), xs a list of texts -/
def tLenTx (K : PySem.W.Frag) (ta : TE) : TE := fun σ H Q => ta σ H fun x H1 => ∃ (l : Addr) (ns : List Str), x = V.ref l ∧ SqL K H1 l (ns.map V.str) ∧ ns.length < 64 ∧ ∀ xs : List Str, xs.Nodup → (∀ k, k ∈ xs ↔ k ∈ ns) → Q (.int xs.length) H1
def tSortTx (K : PySem.W.Frag) (ta : TE) : TE := fun σ H Q => ta σ H fun x H1 => ∃ (l : Addr) (ns : List Str), x = V.ref l ∧ SqL K H1 l (ns.map V.str) ∧ ns.length < 64 ∧ ∀ (xs ys : List Str) (p : Addr), xs.Nodup → (∀ k, k ∈ xs ↔ k ∈ ns) → ys.Perm xs → sortedS ys = true → H1 p = none → Q (.ref p) (upd H1 p (.lst (ys.map V.str)))
theorem len_le : ∀ {xs ns : List Str}, xs.Nodup → (∀ k, k ∈ xs ↔ k ∈ ns) → xs.length ≤ ns.length
  | [], _, _, _ => Nat.zero_le _
  | x :: xs, ns, nd, hm => by
    obtain ⟨h1, h2⟩ := List.nodup_cons.mp nd
    have hx : x ∈ ns := (hm x).mp (List.mem_cons_self ..)
    have h3 := len_le (ns := ns.filter (fun k => decide (k ≠ x))) h2 fun k => by
      rw [List.mem_filter, ← hm k]
      simp only [List.mem_cons, decide_eq_true_eq]
      constructor
      · intro hk
        exact ⟨.inr hk, fun e => h1 (by rw [← e]; exact hk)⟩
      · rintro ⟨e | hk, q⟩
        · exact absurd e q
        · exact hk
    have h4 : (ns.filter (fun k => decide (k ≠ x))).length < ns.length := List.length_filter_lt_length_iff_exists.mpr ⟨x, hx, by simp⟩
    rw [List.length_cons]
    omega
theorem TxS.len {P : Program} {w : World} {h : Heap} {a : Addr} {xs ns : List Str} (R : TxS P w h a xs) (hm : ∀ k, k ∈ xs ↔ k ∈ ns) : xs.length ≤ ns.length := by
  obtain ⟨_, _, _, nd, _⟩ := R
  exact len_le nd hm
section
variable {X : Cx}
theorem pe_lenTx {a : Expr} {ta : TE} {p p2 q pos : Pos} (hc : X.calm = true) (hg : Gl X "len") (hm : X.mg "len" = none) (hg2 : Gl X "set") (hm2 : X.mg "set" = none) (ha : PE X a ta)
    (na : starEach [a] X.env = (false, eval a X.env) :: starEach [] X.env) : PE X (.Call (.Name "len" p) [.Call (.Name "set" p2) [a] [] q] [] pos) (tLenTx X.K ta) := by
  refine ⟨fun pins s σ H Q I h => ?_⟩
  refine Call_ (ld_blt I hg hm PySem.boot_len ?_)
  refine PyProof.Rows.callWith_builtin1 (PyProof.Rows.args_cons ?_ rfl) rfl rfl
  refine Call_ (ld_blt I hg2 hm2 PyProof.Rows.boot_set ?_)
  refine PyProof.Rows.callWith_type1 (PyProof.Rows.args_cons (thn (ha.run pins s σ H _ I h) fun v s1 ⟨x, H1, I1, r1, q1⟩ => PyProof.Rows.args_nil ?_) na) na rfl
  obtain ⟨l, ns, rfl, hq, h1, q1⟩ := q1
  cases r1
  obtain ⟨its, r, pl, hz⟩ := I1.list hq
  refine call_setTx (P := X.prog) (w := X.w) (I1.ok.hd hc) pl.isList (ns := ns) (by simpa using strsAre_of r) (by unfold scanBound; omega) fun h' tk xs hS hx hk => ?_
  refine PyProof.Rows.args_nil ?_
  have hl := hS.len hx
  obtain ⟨D, ho, F, nd, _⟩ := hS
  have I2 : Inv X pins σ H1 { s1 with heap := h', toks := tk } := I1.kept fun b o e => hk b o e
  have hn : D.1.size = xs.length := F.sz
  refine call_len_set ho ⟨rfl, rfl, rfl⟩ rfl F.fit (by rw [hn]; omega) ⟨.int xs.length, H1, I2.tok _, ⟨_, by show Value.int (D.1.size : Nat) _ = _; rw [hn]⟩, q1 xs nd hx⟩
theorem pe_sortTx {a : Expr} {ta : TE} {p p2 q pos : Pos} (hc : X.calm = true) (hg : Gl X "sorted") (hm : X.mg "sorted" = none) (hg2 : Gl X "set") (hm2 : X.mg "set" = none) (ha : PE X a ta)
    (na : starEach [a] X.env = (false, eval a X.env) :: starEach [] X.env) : PE X (.Call (.Name "sorted" p) [.Call (.Name "set" p2) [a] [] q] [] pos) (tSortTx X.K ta) := by
  refine ⟨fun pins s σ H Q I h => ?_⟩
  refine Call_ (ld_blt I hg hm PyProof.Rows.boot_sorted ?_)
  refine PyProof.Rows.callWith_builtin1 (PyProof.Rows.args_cons ?_ rfl) rfl rfl
  refine Call_ (ld_blt I hg2 hm2 PyProof.Rows.boot_set ?_)
  refine PyProof.Rows.callWith_type1 (PyProof.Rows.args_cons (thn (ha.run pins s σ H _ I h) fun v s1 ⟨x, H1, I1, r1, q1⟩ => PyProof.Rows.args_nil ?_) na) na rfl
  obtain ⟨l, ns, rfl, hq, h1, q1⟩ := q1
  cases r1
  obtain ⟨its, r, pl, hz⟩ := I1.list hq
  refine call_setTx (P := X.prog) (w := X.w) (I1.ok.hd hc) pl.isList (ns := ns) (by simpa using strsAre_of r) (by unfold scanBound; omega) fun h' tk xs hS hx hk => ?_
  refine PyProof.Rows.args_nil ?_
  have hl := hS.len hx
  have I2 : Inv X pins σ H1 { s1 with heap := h', toks := tk } := I1.kept fun b o e => hk b o e
  have hnd : xs.Nodup := by
    obtain ⟨_, _, _, nd, _⟩ := hS
    exact nd
  refine sorted_setTx (s := { s1 with heap := h', toks := tk }) hS (I2.ok.hd hc) (by omega) fun s' p out c ys k g o hp hg hi hs hm => ?_
  have hlen : (ys.map V.str).length ≤ sizeLine := by rw [List.length_map, hs.length_eq, sizeLine_eq]; omega
  have hn : H1 p = none := I2.hok.fresh hp
  have J := I2.call (h' := s'.heap) (g' := s'.gens) (d' := s'.drawn) (t' := s'.toks) (ch := []) (Un.laid k hp hn) (I2.hok.laid k hp (o := .lst (ys.map V.str)) ⟨hlen, out.toList, c, vals_of_strs hi, hg⟩) (by rw [g]; exact I2.bare) (fun _ z => nomatch z)
  have e : s' = { s1 with heap := s'.heap, gens := s'.gens, drawn := s'.drawn, toks := s'.toks } := by
    cases s'
    cases s1
    cases o
    rfl
  rw [e]
  exact ⟨.ref p, _, J, rfl, q1 xs ys p hnd hx hs hm hn⟩
end
end Mp
namespace Mp
open PySem PySem.Spec PyProof.Rows L2
abbrev D := PyData

/-! ## results -/
inductive Out (α : Type) where
  | ok (a : α)
  | exc (c : Str) (fs : List (Str × D))
  | stuck
namespace Out
def bind {α β : Type} (x : Out α) (f : α → Out β) : Out β := match x with
  | .ok a => f a
  | .exc c fs => .exc c fs
  | .stuck => .stuck
end Out

/-! ## what a value stands for -/
def keyD : Key → D
  | .inl i => .int i
  | .inr x => .str x
/-- a tuple of the written part -/
def WrT (K : PySem.W.Frag) (a : Addr) (xs : List V) : Prop := ∃ (o : Obj) (is : Array Value) (k : Nat),
  (K.lookup a = some o ∧ o.cls = .type "tuple") ∧ o.dict = none ∧ o.data = .seq is k ∧ is.size ≤ sizeLine ∧ Vals xs is.toList
theorem WrT.sq {K : PySem.W.Frag} {a : Addr} {xs : List V} (h : WrT K a xs) (H : Hp) : SqT K H a xs := by
  obtain ⟨o, is, k, ⟨h1, h2⟩, _, h4, h5, h6⟩ := h
  exact .inr ⟨o, is, k, h1, h2, h4, h5, h6⟩
/-- a tuple without a dict, of the run or of the written part -/
def PlT (K : PySem.W.Frag) (H : Hp) (a : Addr) (xs : List V) : Prop := TupN H a xs ∨ WrT K a xs
theorem PlT.sq {K : PySem.W.Frag} {H : Hp} {a : Addr} {xs : List V} (h : PlT K H a xs) : SqT K H a xs := h.elim (fun q => .inl q.rd) fun q => q.sq H
/-- an instance of a class of the program: its class's name, its fields -/
abbrev insD (c : Str) (fs : List (D × D)) : D := .dict ((.tuple [.str c], .none) :: fs)
def insB : List (D × D) → Bool
  | (.tuple _, _) :: _ => true
  | _ => false
mutual
inductive Rep (K : PySem.W.Frag) (U : Addr → Prop) (H : Hp) : V → D → Prop
  | non : Rep K U H .non .none
  | bl (b : Bool) : Rep K U H (.bl b) (.bool b)
  | int (i : Int) : Rep K U H (.int i) (.int i)
  | str (x : Str) : Rep K U H (.str x) (.str x)
  | tup {a : Addr} {xs : List V} {ds : List D} : ((¬ U a ∧ TupN H a xs) ∨ WrT K a xs) → Reps K U H xs ds → Rep K U H (.ref a) (.tuple ds)
  | lst {a : Addr} {xs : List V} {ds : List D} : ¬ U a → Rd H a (.lst xs) → Reps K U H xs ds → Rep K U H (.ref a) (.list ds)
  | dct {a : Addr} {kvs : List (Key × V)} {es : List (D × D)} : ¬ U a → Rd H a (.dK kvs) → RepK K U H kvs es → Rep K U H (.ref a) (.dict es)
  | ins {a dx C : Addr} {c : Str} {vs : List (Str × V)} {fs : List (D × D)} : ¬ U a → H a = some (.ins C dx vs) → PySem.W.nsIn K mainGlobals c = some (some (.ref C)) → RepF K U H vs fs → Rep K U H (.ref a) (.dict ((.tuple [.str c], .none) :: fs))
inductive Reps (K : PySem.W.Frag) (U : Addr → Prop) (H : Hp) : List V → List D → Prop
  | nil : Reps K U H [] []
  | cons {v : V} {vs : List V} {d : D} {ds : List D} : Rep K U H v d → Reps K U H vs ds → Reps K U H (v :: vs) (d :: ds)
inductive RepK (K : PySem.W.Frag) (U : Addr → Prop) (H : Hp) : List (Key × V) → List (D × D) → Prop
  | nil : RepK K U H [] []
  | cons {k : Key} {v : V} {kvs : List (Key × V)} {d : D} {es : List (D × D)} : Rep K U H v d → RepK K U H kvs es → RepK K U H ((k, v) :: kvs) ((keyD k, d) :: es)
inductive RepF (K : PySem.W.Frag) (U : Addr → Prop) (H : Hp) : List (Str × V) → List (D × D) → Prop
  | nil : RepF K U H [] []
  | cons {f : Str} {v : V} {vs : List (Str × V)} {d : D} {fs : List (D × D)} : Rep K U H v d → RepF K U H vs fs → RepF K U H ((f, v) :: vs) ((.tuple [.str f], d) :: fs)
end
/-- what is tracked outside U is kept; U' has nothing that was there and is not in U -/
structure Kp (U U' : Addr → Prop) (H H' : Hp) : Prop where
  k : ∀ a o, H a = some o → ¬ U a → H' a = some o
  u : ∀ a, U' a → U a ∨ H a = none
theorem Rd.some {H : Hp} {a : Addr} {o : HO} (h : Rd H a o) : ∃ o', H a = some o' := by
  rcases h with h | ⟨q, h⟩
  · exact ⟨_, h⟩
  · exact ⟨_, h⟩
theorem Kp.rd {U U' : Addr → Prop} {H H' : Hp} (p : Kp U U' H H') {a : Addr} {o : HO} (hu : ¬ U a) (h : Rd H a o) : ¬ U' a ∧ Rd H' a o := by
  constructor
  · intro z
    rcases p.u a z with z | z
    · exact hu z
    · obtain ⟨o', e⟩ := Rd.some h
      rw [z] at e; cases e
  · rcases h with h | ⟨q, h⟩
    · exact .inl (p.k _ _ h hu)
    · exact .inr ⟨q, p.k _ _ h hu⟩
theorem Kp.tupN {U U' : Addr → Prop} {H H' : Hp} (p : Kp U U' H H') {a : Addr} {xs : List V} (hu : ¬ U a) (h : TupN H a xs) : ¬ U' a ∧ TupN H' a xs := by
  obtain ⟨q, e, d⟩ := h
  exact ⟨(p.rd hu (.inl e)).1, q, p.k _ _ e hu, d⟩
section
variable {K : PySem.W.Frag} {U U' : Addr → Prop} {H H' : Hp}
mutual
theorem Rep.mono (p : Kp U U' H H') : ∀ {v : V} {d : D}, Rep K U H v d → Rep K U' H' v d
  | _, _, .non => .non
  | _, _, .bl b => .bl b
  | _, _, .int i => .int i
  | _, _, .str x => .str x
  | _, _, .tup h r => .tup (h.imp (fun q => p.tupN q.1 q.2) id) (Reps.mono p r)
  | _, _, .lst h1 h2 r => .lst (p.rd h1 h2).1 (p.rd h1 h2).2 (Reps.mono p r)
  | _, _, .dct h1 h2 r => .dct (p.rd h1 h2).1 (p.rd h1 h2).2 (RepK.mono p r)
  | _, _, .ins h1 h2 h3 r => .ins (p.rd h1 (.inl h2)).1 (p.k _ _ h2 h1) h3 (RepF.mono p r)
theorem Reps.mono (p : Kp U U' H H') : ∀ {vs : List V} {ds : List D}, Reps K U H vs ds → Reps K U' H' vs ds
  | _, _, .nil => .nil
  | _, _, .cons r t => .cons (Rep.mono p r) (Reps.mono p t)
theorem RepK.mono (p : Kp U U' H H') : ∀ {vs : List (Key × V)} {ds : List (D × D)}, RepK K U H vs ds → RepK K U' H' vs ds
  | _, _, .nil => .nil
  | _, _, .cons r t => .cons (Rep.mono p r) (RepK.mono p t)
theorem RepF.mono (p : Kp U U' H H') : ∀ {vs : List (Str × V)} {ds : List (D × D)}, RepF K U H vs ds → RepF K U' H' vs ds
  | _, _, .nil => .nil
  | _, _, .cons r t => .cons (Rep.mono p r) (RepF.mono p t)
end
theorem RepK.noIns : ∀ {kvs : List (Key × V)} {es : List (D × D)}, RepK K U H kvs es → insB es = false
  | _, _, .nil => rfl
  | _, _, .cons (k := k) _ _ => by cases k <;> rfl
/-- an instance's fields, owned or not -/
def OwnI (K : PySem.W.Frag) (U : Addr → Prop) (H : Hp) (a : Addr) (es : List (D × D)) : Prop := ∃ (C dx : Addr) (c : Str) (vs : List (Str × V)) (fs : List (D × D)), es = (.tuple [.str c], .none) :: fs ∧ H a = some (.ins C dx vs) ∧ PySem.W.nsIn K mainGlobals c = some (some (.ref C)) ∧ RepF K U H vs fs
theorem Kp.same (s : Same H H') : Kp U U H H' := ⟨fun a o e _ => s a o e, fun _ z => .inl z⟩
theorem Kp.less (h : ∀ a, U' a → U a) : Kp U U' H H := ⟨fun _ _ e _ => e, fun a z => .inl (h a z)⟩
abbrev NoU : Addr → Prop := fun _ => False
theorem Kp.noU : Kp U NoU H H := Kp.less fun _ z => z.elim
theorem Reps.length : ∀ {vs : List V} {ds : List D}, Reps K U H vs ds → vs.length = ds.length
  | _, _, .nil => rfl
  | _, _, .cons _ t => congrArg (· + 1) (Reps.length t)
theorem RepK.length : ∀ {vs : List (Key × V)} {ds : List (D × D)}, RepK K U H vs ds → vs.length = ds.length
  | _, _, .nil => rfl
  | _, _, .cons _ t => congrArg (· + 1) (RepK.length t)
theorem Reps.append : ∀ {vs ws : List V} {ds es : List D}, Reps K U H vs ds → Reps K U H ws es → Reps K U H (vs ++ ws) (ds ++ es)
  | _, _, _, _, .nil, s => s
  | _, _, _, _, .cons r t, s => .cons r (Reps.append t s)
theorem Reps.get : ∀ {vs : List V} {ds : List D}, Reps K U H vs ds → ∀ {i : Nat} {d : D}, ds[i]? = some d → ∃ v, vs[i]? = some v ∧ Rep K U H v d
  | _, _, .nil, i, d, e => by simp at e
  | _, _, .cons (d := d0) r t, 0, d, e => by
    obtain rfl : d0 = d := by simpa using e
    exact ⟨_, rfl, r⟩
  | _, _, .cons r t, i + 1, d, e => by
    obtain ⟨v, h1, h2⟩ := Reps.get t (i := i) (d := d) (by simpa using e)
    exact ⟨v, by simpa using h1, h2⟩
theorem Reps.get' : ∀ {vs : List V} {ds : List D}, Reps K U H vs ds → ∀ {i : Nat} {v : V}, vs[i]? = some v → ∃ d, ds[i]? = some d ∧ Rep K U H v d
  | _, _, .nil, i, d, e => by simp at e
  | _, _, .cons (v := d0) r t, 0, d, e => by
    obtain rfl : d0 = d := by simpa using e
    exact ⟨_, rfl, r⟩
  | _, _, .cons r t, i + 1, d, e => by
    obtain ⟨v, h1, h2⟩ := Reps.get' t (i := i) (v := d) (by simpa using e)
    exact ⟨v, by simpa using h1, h2⟩
theorem Reps.set {x : V} {u : D} (r : Rep K U H x u) : ∀ {xs : List V} {us : List D}, Reps K U H xs us → ∀ (i : Nat), Reps K U H (xs.set i x) (us.set i u)
  | _, _, .nil, _ => .nil
  | _, _, .cons _ t, 0 => .cons r t
  | _, _, .cons q t, i + 1 => .cons q (Reps.set r t i)
theorem Reps.take : ∀ {xs : List V} {us : List D}, Reps K U H xs us → ∀ (i : Nat), Reps K U H (xs.take i) (us.take i)
  | _, _, _, 0 => .nil
  | _, _, .nil, _ + 1 => .nil
  | _, _, .cons q t, i + 1 => .cons q (Reps.take t i)
theorem Reps.drop : ∀ {xs : List V} {us : List D}, Reps K U H xs us → ∀ (i : Nat), Reps K U H (xs.drop i) (us.drop i)
  | _, _, t, 0 => t
  | _, _, .nil, _ + 1 => .nil
  | _, _, .cons q t, i + 1 => Reps.drop t i
/-- ints, bools, texts -/
theorem Reps.ints : ∀ {vs : List V} {ns : List Int}, Reps K U H vs (ns.map .int) → vs = ns.map V.int
  | _, [], .nil => rfl
  | _, n :: ns, .cons (.int _) t => by rw [List.map_cons, Reps.ints t]
theorem Reps.bls : ∀ {vs : List V} {ns : List Bool}, Reps K U H vs (ns.map .bool) → vs = ns.map V.bl
  | _, [], .nil => rfl
  | _, n :: ns, .cons (.bl _) t => by rw [List.map_cons, Reps.bls t]
theorem Reps.strs : ∀ {vs : List V} {ns : List Str}, Reps K U H vs (ns.map .str) → vs = ns.map V.str
  | _, [], .nil => rfl
  | _, n :: ns, .cons (.str _) t => by rw [List.map_cons, Reps.strs t]
theorem Reps.of_ints (ns : List Int) : Reps K U H (ns.map V.int) (ns.map .int) := by
  induction ns with
  | nil => exact .nil
  | cons n ns ih => exact .cons (.int n) ih
theorem Reps.of_strs (ns : List Str) : Reps K U H (ns.map V.str) (ns.map .str) := by
  induction ns with
  | nil => exact .nil
  | cons n ns ih => exact .cons (.str n) ih
end
/-! ## owned objects -/
def Own (K : PySem.W.Frag) (U : Addr → Prop) (H : Hp) (a : Addr) : D → Prop
  | .list ds => ∃ vs, H a = some (.lst vs) ∧ Reps K U H vs ds
  | .dict es => (∃ kvs, H a = some (.dK kvs) ∧ RepK K U H kvs es) ∨ OwnI K U H a es
  | _ => False
theorem Own.mono {K : PySem.W.Frag} {U U' : Addr → Prop} {H H' : Hp} (p : Kp U U' H H') {a : Addr} (ha : ∀ o, H a = some o → H' a = some o) {d : D} (h : Own K U H a d) : Own K U' H' a d := by
  cases d with
  | list ds =>
    obtain ⟨vs, e, r⟩ := h
    exact ⟨vs, ha _ e, r.mono p⟩
  | dict es =>
    rcases h with ⟨vs, e, r⟩ | ⟨C, dx, c, vs, fs, e0, e, n, r⟩
    · exact .inl ⟨vs, ha _ e, r.mono p⟩
    · exact .inr ⟨C, dx, c, vs, fs, e0, ha _ e, n, r.mono p⟩
  | _ => exact h.elim
theorem Own.some {K : PySem.W.Frag} {U : Addr → Prop} {H : Hp} {a : Addr} {d : D} (h : Own K U H a d) : ∃ o, H a = some o := by
  cases d with
  | list ds =>
    obtain ⟨vs, e, r⟩ := h
    exact ⟨_, e⟩
  | dict es =>
    rcases h with ⟨vs, e, r⟩ | ⟨C, dx, c, vs, fs, e0, e, n, r⟩
    · exact ⟨_, e⟩
    · exact ⟨_, e⟩
  | _ => exact h.elim
/-- an owned object, as a value that nobody owns -/
theorem Own.rep {K : PySem.W.Frag} {U U' : Addr → Prop} {H : Hp} {a : Addr} {d : D} (h : Own K U H a d) (p : Kp U U' H H) (ha : ¬ U' a) : Rep K U' H (.ref a) d := by
  cases d with
  | list ds =>
    obtain ⟨vs, e, r⟩ := h
    exact .lst ha (.inl e) (r.mono p)
  | dict es =>
    rcases h with ⟨vs, e, r⟩ | ⟨C, dx, c, vs, fs, e0, e, n, r⟩
    · exact .dct ha (.inl e) (r.mono p)
    · subst e0
      exact .ins ha e n (r.mono p)
  | _ => exact h.elim
/-- read, owned or not -/
def BRep (K : PySem.W.Frag) (U : Addr → Prop) (H : Hp) (v : V) (d : D) : Prop := Rep K U H v d ∨ ∃ a, v = .ref a ∧ U a ∧ Own K U H a d
theorem BRep.rep0 {K : PySem.W.Frag} {U : Addr → Prop} {H : Hp} {v : V} {d : D} (h : BRep K U H v d) : Rep K NoU H v d := by
  rcases h with h | ⟨a, rfl, hu, h⟩
  · exact h.mono Kp.noU
  · exact h.rep Kp.noU (fun z => z)
theorem BRep.lst {K : PySem.W.Frag} {U : Addr → Prop} {H : Hp} {v : V} {ds : List D} (h : BRep K U H v (.list ds)) : ∃ a xs, v = .ref a ∧ Rd H a (.lst xs) ∧ Reps K U H xs ds := by
  rcases h with h | ⟨a, rfl, hu, vs, e, r⟩
  · cases h with
    | lst _ h r => exact ⟨_, _, rfl, h, r⟩
  · exact ⟨a, vs, rfl, .inl e, r⟩
theorem BRep.dct {K : PySem.W.Frag} {U : Addr → Prop} {H : Hp} {v : V} {ds : List (D × D)} (h : BRep K U H v (.dict ds)) (hi : insB ds = false) : ∃ a xs, v = .ref a ∧ Rd H a (.dK xs) ∧ RepK K U H xs ds := by
  rcases h with h | ⟨a, rfl, hu, h⟩
  · cases h with
    | dct _ h r => exact ⟨_, _, rfl, h, r⟩
    | ins _ _ _ _ => cases hi
  · rcases h with ⟨vs, e, r⟩ | ⟨C, dx, c, vs, fs, e0, e, n, r⟩
    · exact ⟨a, vs, rfl, .inl e, r⟩
    · subst e0
      cases hi
/-- an instance, read -/
theorem BRep.ins {K : PySem.W.Frag} {U : Addr → Prop} {H : Hp} {v : V} {c : Str} {fs : List (D × D)} (h : BRep K U H v (insD c fs)) : ∃ (a C dx : Addr) (vs : List (Str × V)), v = .ref a ∧ H a = some (.ins C dx vs) ∧ PySem.W.nsIn K mainGlobals c = some (some (.ref C)) ∧ RepF K U H vs fs := by
  rcases h with h | ⟨a, rfl, hu, h⟩
  · cases h with
    | dct _ h r =>
      have := r.noIns
      cases this
    | ins _ h n r => exact ⟨_, _, _, _, rfl, h, n, r⟩
  · rcases h with ⟨vs, e, r⟩ | ⟨C, dx, c', vs, fs', e0, e, n, r⟩
    · have := r.noIns
      cases this
    · injection e0 with e1 e2
      injection e1 with e3 _
      injection e3 with e4
      injection e4 with e5 _
      injection e5 with e6
      subst e6 e2
      exact ⟨a, C, dx, vs, rfl, e, n, r⟩
theorem BRep.tupN {K : PySem.W.Frag} {U : Addr → Prop} {H : Hp} {v : V} {ds : List D} (h : BRep K U H v (.tuple ds)) : ∃ a xs, v = .ref a ∧ PlT K H a xs ∧ Reps K U H xs ds := by
  rcases h with h | ⟨a, rfl, hu, h⟩
  · cases h with
    | tup h r => exact ⟨_, _, rfl, h.imp (fun q => q.2) id, r⟩
  · exact h.elim
theorem BRep.tup {K : PySem.W.Frag} {U : Addr → Prop} {H : Hp} {v : V} {ds : List D} (h : BRep K U H v (.tuple ds)) : ∃ a xs, v = .ref a ∧ SqT K H a xs ∧ Reps K U H xs ds := by
  obtain ⟨a, xs, e, h, r⟩ := h.tupN
  exact ⟨a, xs, e, h.sq, r⟩
theorem BRep.int {K : PySem.W.Frag} {U : Addr → Prop} {H : Hp} {v : V} {i : Int} (h : BRep K U H v (.int i)) : v = .int i := by
  rcases h with h | ⟨a, rfl, hu, h⟩
  · cases h; rfl
  · exact h.elim
theorem BRep.str {K : PySem.W.Frag} {U : Addr → Prop} {H : Hp} {v : V} {i : Str} (h : BRep K U H v (.str i)) : v = .str i := by
  rcases h with h | ⟨a, rfl, hu, h⟩
  · cases h; rfl
  · exact h.elim
theorem BRep.bl {K : PySem.W.Frag} {U : Addr → Prop} {H : Hp} {v : V} {i : Bool} (h : BRep K U H v (.bool i)) : v = .bl i := by
  rcases h with h | ⟨a, rfl, hu, h⟩
  · cases h; rfl
  · exact h.elim
theorem BRep.non {K : PySem.W.Frag} {U : Addr → Prop} {H : Hp} {v : V} (h : BRep K U H v .none) : v = .non := by
  rcases h with h | ⟨a, rfl, hu, h⟩
  · cases h; rfl
  · exact h.elim
end Mp
namespace Mp
open PySem PySem.Spec PyProof.Rows L2
/-! ## the frame's slots -/
abbrev Rho := List (Option (Bool × D))
/-- the entry: the heap then; what the callers own -/
structure Ent where
  h : Hp
  b : Addr → Prop
/-- an object that can be written to -/
def MuO (o : HO) : Prop := (∃ xs, o = .lst xs) ∨ (∃ kvs, o = .dK kvs) ∨ ∃ C dx vs, o = .ins C dx vs
/-- slot i holds d, owned (b) or not -/
def SlotR (K : PySem.W.Frag) (H0 : Ent) (U : Addr → Prop) (H : Hp) (v : Option (Option V)) : Option (Option (Bool × D)) → Prop
  | some (some (false, d)) => ∃ x, v = some (some x) ∧ Rep K U H x d
  | some (some (true, d)) => ∃ a, v = some (some (.ref a)) ∧ U a ∧ H0.h a = none ∧ Own K U H a d
  | _ => True
structure Pt (K : PySem.W.Frag) (H0 : Ent) (σ : L2.St) (H : Hp) (ρ : Rho) (U : Addr → Prop) : Prop where
  len : σ.length = ρ.length
  sl : ∀ (i : Nat), SlotR K H0 U H σ[i]? ρ[i]?
  ne : ∀ (i j : Nat) (d e : D) (a : Addr), ρ[i]? = some (some (true, d)) → ρ[j]? = some (some (true, e)) → σ[i]? = some (some (.ref a)) → σ[j]? = some (some (.ref a)) → i = j
  ud : ∀ (a : Addr), U a → ∃ o, H a = some o ∧ MuO o
  bu : ∀ (a : Addr), H0.b a → U a
  bd : ∀ (a : Addr), H0.b a → ∃ o, H0.h a = some o
  s0 : Same H0.h H
theorem SlotR.same {K : PySem.W.Frag} {H0 : Ent} {U : Addr → Prop} {H H' : Hp} (s : Same H H') {v : Option (Option V)} : ∀ {r : Option (Option (Bool × D))}, SlotR K H0 U H v r → SlotR K H0 U H' v r
  | some (some (false, d)), ⟨x, e, r⟩ => ⟨x, e, r.mono (Kp.same s)⟩
  | some (some (true, d)), ⟨a, e, u, h0, r⟩ => ⟨a, e, u, h0, r.mono (Kp.same s) fun o q => s _ _ q⟩
  | some none, _ => trivial
  | none, _ => trivial
theorem Pt.same {K : PySem.W.Frag} {H0 : Ent} {σ : L2.St} {H H' : Hp} {ρ : Rho} {U : Addr → Prop} (P : Pt K H0 σ H ρ U) (s : Same H H') : Pt K H0 σ H' ρ U :=
  ⟨P.len, fun i => (P.sl i).same s, P.ne, fun a z => by
    obtain ⟨o, e, m⟩ := P.ud a z
    exact ⟨o, s _ _ e, m⟩, P.bu, P.bd, P.s0.trans s⟩
theorem Pt.fresh {K : PySem.W.Frag} {H0 : Ent} {σ : L2.St} {H : Hp} {ρ : Rho} {U : Addr → Prop} (P : Pt K H0 σ H ρ U) {p : Addr} (h : H p = none) : ¬ U p := fun z => by
  obtain ⟨o, e, _⟩ := P.ud p z
  rw [h] at e; cases e
theorem same_new {H : Hp} {p : Addr} {o : HO} (h : H p = none) : Same H (upd H p o) := fun b x e => by
  rw [upd_ne (ne_of_none e h)]
  exact e
/-! ## modes of a value: as it is, perhaps owned, a new object -/
inductive Md where
  | v | b | f
def RepM (K : PySem.W.Frag) (U : Addr → Prop) (H H' : Hp) (v : V) (d : D) : Md → Prop
  | .v => Rep K U H' v d
  | .b => BRep K U H' v d
  | .f => ∃ a, v = .ref a ∧ H a = none ∧ Own K (fun b => U b ∨ b = a) H' a d
theorem RepM.later {K : PySem.W.Frag} {U : Addr → Prop} {H H1 H' : Hp} (s : Same H H1) {v : V} {d : D} : ∀ {m : Md}, RepM K U H1 H' v d m → RepM K U H H' v d m
  | .v, h => h
  | .b, h => h
  | .f, ⟨a, e, n, r⟩ => ⟨a, e, s.free n, r⟩
theorem own_new {K : PySem.W.Frag} {U : Addr → Prop} {H : Hp} {a : Addr} {d : D} (h : Own K (fun b => U b ∨ b = a) H a d) (n : ¬ U a) : Rep K U H (.ref a) d :=
  h.rep (Kp.less fun _ z => .inl z) n
/-- an int or a text, as an exception's field -/
def Imm : V → D → Prop := fun x y => (∃ i : Int, x = .int i ∧ y = .int i) ∨ ∃ z : Str, x = .str z ∧ y = .str z
theorem Imm.rep {K : PySem.W.Frag} {U : Addr → Prop} {H : Hp} {x : V} {y : D} (h : Imm x y) : Rep K U H x y := by
  rcases h with ⟨i, rfl, rfl⟩ | ⟨z, rfl, rfl⟩
  · exact .int i
  · exact .str z
/-- what an error's class must have for f to be read -/
def FldOk (K : PySem.W.Frag) (cls : Value) (f : Str) : Prop := ∃ C, cls = .ref C ∧ XfC K C ∧ PySem.W.findIn K (.ref C) f = some none
/-- an exception -/
def ExR (mg : Str → Option Value) (K : PySem.W.Frag) (H : Hp) (c : Str) (fs : List (Str × D)) (cls : Value) (d : Option Addr) : Prop :=
  mg c = some cls ∧ (fs = [] ∧ d = none ∨ fs ≠ [] ∧ ∃ dd xs, d = some dd ∧ H dd = some (.xd xs) ∧ ∀ f y, fs.lookup f = some y → FldOk K cls f ∧ ∃ x, xs.lookup f = some x ∧ Imm x y)
section
variable (X : Cx) (H0 : Ent) (W : WX)
/-- what is asked behind -/
def PostM (m : Md) (σ : L2.St) (H : Hp) (U : Addr → Prop) (Q : VK) : Out D → Prop
  | .ok d => ∀ v H', Same H H' → RepM X.K U H H' v d m → Q v H'
  | .exc c fs => ∀ cls dd H', Same H H' → ExR X.mg X.K H' c fs cls dd → W cls dd σ H'
  | .stuck => False
def tD (m : Md) (f : Rho → Out D) : TE := fun σ H Q => ∃ ρ U, Pt X.K H0 σ H ρ U ∧ PostM X W m σ H U Q (f ρ)
abbrev DE (m : Md) (e : Expr) (f : Rho → Out D) : Prop := PE X e (tD X H0 W m f)
end
section
variable {X : Cx} {H0 : Ent} {W : WX}
theorem PE.imp {e : Expr} {t t' : TE} (h : PE X e t) (i : ∀ σ H Q, t' σ H Q → t σ H Q) : PE X e t' := ⟨fun pins s σ H Q I q => h.run pins s σ H Q I (i σ H Q q)⟩
theorem PT.imp {e : Expr} {t t' : TT} (h : PT X e t) (i : ∀ σ H Q, t' σ H Q → t σ H Q) : PT X e t' := ⟨fun pins s σ H Q I q => h.run pins s σ H Q I (i σ H Q q)⟩
theorem PA.imp {e : List Expr} {t t' : TA} (h : PA X e t) (i : ∀ σ H Q, t' σ H Q → t σ H Q) : PA X e t' := ⟨fun pos pins s σ H Q I q => h.run pos pins s σ H Q I (i σ H Q q)⟩
theorem PS.imp {e : Stmt} {t t' : TS} (h : PS X e t) (i : ∀ D σ H, t' D σ H → t D σ H) : PS X e t' := ⟨fun pins s σ H D I q => h.run pins s σ H D I (i D σ H q)⟩
theorem PSs.imp {e : List Stmt} {t t' : TS} (h : PSs X e t) (i : ∀ D σ H, t' D σ H → t D σ H) : PSs X e t' := ⟨fun pins s σ H D I q => h.run pins s σ H D I (i D σ H q)⟩
theorem Same.tr {H H1 H2 : Hp} (a : Same H H1) (b : Same H1 H2) : Same H H2 := a.trans b
theorem PostM.later {m : Md} {σ : L2.St} {H H1 : Hp} {U : Addr → Prop} {Q : VK} (s : Same H H1) : ∀ {r : Out D}, PostM X W m σ H U Q r → PostM X W m σ H1 U Q r
  | .ok d, h => fun v H' s' r => h v H' (s.trans s') (r.later s)
  | .exc c fs, h => fun cls dd H' s' r => h cls dd H' (s.trans s') r
  | .stuck, h => h
theorem PostM.now {m : Md} {σ : L2.St} {H : Hp} {U : Addr → Prop} {Q : VK} {d : D} {v : V} (h : PostM X W m σ H U Q (.ok d)) (r : RepM X.K U H H v d m) : Q v H := h v H (Same.refl H) r
/-- weaker modes -/
theorem DE.toV {e : Expr} {f : Rho → Out D} (h : DE X H0 W .f e f) : DE X H0 W .v e f := PE.imp h fun σ H Q ⟨ρ, U, P, q⟩ => ⟨ρ, U, P, by
  revert q
  cases f ρ with
  | ok d => exact fun q v H' s ⟨a, e, n, r⟩ => q v H' s (by
      subst e
      exact own_new r (P.fresh n))
  | exc c fs => exact id
  | stuck => exact id⟩
theorem DE.toB {e : Expr} {f : Rho → Out D} (h : DE X H0 W .v e f) : DE X H0 W .b e f := PE.imp h fun σ H Q ⟨ρ, U, P, q⟩ => ⟨ρ, U, P, by
  revert q
  cases f ρ with
  | ok d => exact fun q v H' s r => q v H' s (.inl r)
  | exc c fs => exact id
  | stuck => exact id⟩
/-- a first part, then the rest -/
theorem tD.bind {m ma : Md} {fa : Rho → Out D} {k : D → Rho → Out D} {σ : L2.St} {H : Hp} {Q : VK} (h : tD X H0 W m (fun ρ => (fa ρ).bind fun d => k d ρ) σ H Q) :
    tD X H0 W ma fa σ H fun v H1 => ∃ ρ U d, Same H H1 ∧ Pt X.K H0 σ H1 ρ U ∧ RepM X.K U H H1 v d ma ∧ PostM X W m σ H1 U Q (k d ρ) := by
  obtain ⟨ρ, U, P, q⟩ := h
  replace q : PostM X W m σ H U Q ((fa ρ).bind fun d => k d ρ) := q
  refine ⟨ρ, U, P, ?_⟩
  revert q
  cases fa ρ with
  | ok d => exact fun q v H1 s r => ⟨ρ, U, d, s, P.same s, r, PostM.later s q⟩
  | exc c fs => exact fun q => q
  | stuck => exact fun q => q
/-- two parts that are read, then the rest -/
theorem tD.bind2 {m : Md} {fa fb : Rho → Out D} {k : D → D → Out D} {σ : L2.St} {H : Hp} {Q : VK} (h : tD X H0 W m (fun ρ => (fa ρ).bind fun x => (fb ρ).bind fun y => k x y) σ H Q) :
    tD X H0 W .b fa σ H fun v H1 => tD X H0 W .b fb σ H1 fun u H2 => ∃ U x y, (∀ p, H2 p = none → ¬ U p) ∧ BRep X.K U H2 v x ∧ BRep X.K U H2 u y ∧ PostM X W m σ H2 U Q (k x y) := by
  have h1 := tD.bind (ma := .b) (k := fun x ρ => (fb ρ).bind fun y => k x y) h
  obtain ⟨ρ, U, P, q⟩ := h1
  refine ⟨ρ, U, P, ?_⟩
  revert q
  cases fa ρ with
  | exc c fs => exact fun q => q
  | stuck => exact fun q => q
  | ok d =>
    intro q v H1 s r
    obtain ⟨ρ1, U1, x, s1, P1, r1, q1⟩ := q v H1 s r
    refine ⟨ρ1, U1, P1, ?_⟩
    revert q1
    cases fb ρ1 with
    | exc c fs => exact fun q => q
    | stuck => exact fun q => q
    | ok y =>
      intro q1 u H2 s2 r2
      refine ⟨U1, x, y, fun p hp => (P1.same s2).fresh hp, ?_, r2, PostM.later s2 q1⟩
      rcases r1 with r1 | ⟨a, e, hu, o⟩
      · exact .inl (r1.mono (Kp.same s2))
      · exact .inr ⟨a, e, hu, o.mono (Kp.same s2) fun _ z => s2 _ _ z⟩
/-- one part that is read -/
theorem tD.bind1 {m : Md} {fa : Rho → Out D} {k : D → Out D} {σ : L2.St} {H : Hp} {Q : VK} (h : tD X H0 W m (fun ρ => (fa ρ).bind k) σ H Q) :
    tD X H0 W .b fa σ H fun v H1 => ∃ U x, (∀ p, H1 p = none → ¬ U p) ∧ BRep X.K U H1 v x ∧ PostM X W m σ H1 U Q (k x) := by
  obtain ⟨ρ, U, P, q⟩ := tD.bind (ma := .b) (k := fun x _ => k x) h
  refine ⟨ρ, U, P, ?_⟩
  revert q
  cases fa ρ with
  | exc c fs => exact fun q => q
  | stuck => exact fun q => q
  | ok d =>
    intro q v H1 s r
    obtain ⟨ρ1, U1, x, s1, P1, r1, q1⟩ := q v H1 s r
    exact ⟨U1, x, fun p hp => P1.fresh hp, r1, q1⟩
/-! ## constants, names -/
theorem de_int {i : Int} {j pos} : DE X H0 W .v (.Constant (.int i) j pos) fun _ => .ok (.int i) := PE.imp pe_int fun _ H _ ⟨_, _, _, q⟩ => q (.int i) H (Same.refl H) (.int i)
theorem de_bl {i : Bool} {j pos} : DE X H0 W .v (.Constant (.bool i) j pos) fun _ => .ok (.bool i) := PE.imp pe_bl fun _ H _ ⟨_, _, _, q⟩ => q (.bl i) H (Same.refl H) (.bl i)
theorem de_str {i : Str} {j pos} : DE X H0 W .v (.Constant (.str i) j pos) fun _ => .ok (.str i) := PE.imp pe_str fun _ H _ ⟨_, _, _, q⟩ => q (.str i) H (Same.refl H) (.str i)
theorem de_non {j pos} : DE X H0 W .v (.Constant .none j pos) fun _ => .ok .none := PE.imp pe_non fun _ H _ ⟨_, _, _, q⟩ => q .non H (Same.refl H) .non
def getV (ρ : Rho) (i : Nat) : Out D := match ρ[i]? with
  | some (some (false, d)) => .ok d
  | _ => .stuck
def getB (ρ : Rho) (i : Nat) : Out D := match ρ[i]? with
  | some (some (_, d)) => .ok d
  | _ => .stuck
theorem de_var {i : Nat} {x : Str} {pos : Pos} (hN : X.N[i]? = some x) (hv : Vis X.env.scope x) (hd : (x == ("__debug__" : Str)) = false) (hcd : (x == ("__classdict__" : Str)) = false) : DE X H0 W .v (.Name x pos) fun ρ => getV ρ i :=
  PE.imp (pe_var hN hv hd hcd) fun σ H Q ⟨ρ, U, P, q⟩ => by
    have z := P.sl i
    replace q : PostM X W .v σ H U Q (getV ρ i) := q
    revert q z
    unfold getV
    generalize ρ[i]? = o
    rcases o with _ | _ | ⟨b, d⟩
    · exact fun _ q => q.elim
    · exact fun _ q => q.elim
    · cases b with
      | true => exact fun _ q => q.elim
      | false =>
        rintro ⟨x, e, r⟩ q
        exact ⟨x, e, q x H (Same.refl H) r⟩
theorem de_varB {i : Nat} {x : Str} {pos : Pos} (hN : X.N[i]? = some x) (hv : Vis X.env.scope x) (hd : (x == ("__debug__" : Str)) = false) (hcd : (x == ("__classdict__" : Str)) = false) : DE X H0 W .b (.Name x pos) fun ρ => getB ρ i :=
  PE.imp (pe_var hN hv hd hcd) fun σ H Q ⟨ρ, U, P, q⟩ => by
    have z := P.sl i
    replace q : PostM X W .b σ H U Q (getB ρ i) := q
    revert q z
    unfold getB
    generalize ρ[i]? = o
    rcases o with _ | _ | ⟨b, d⟩
    · exact fun _ q => q.elim
    · exact fun _ q => q.elim
    · cases b with
      | true =>
        rintro ⟨a, e, hu, h0, r⟩ q
        exact ⟨.ref a, e, q (.ref a) H (Same.refl H) (.inr ⟨a, rfl, hu, r⟩)⟩
      | false =>
        rintro ⟨x, e, r⟩ q
        exact ⟨x, e, q x H (Same.refl H) (.inl r)⟩
/-- a value of the written part -/
def WrRep (K : PySem.W.Frag) (v : V) (d : D) : Prop := ∀ U H, Rep K U H v d
theorem de_glob {x : Str} {v : V} {d : D} {u : Value} {pos : Pos} (hg : Gl X x) (hm : X.mg x = some u) (r : RelV v u) (w : WrRep X.K v d) (hd : (x == ("__debug__" : Str)) = false) : DE X H0 W .v (.Name x pos) fun _ => .ok d :=
  PE.imp (pe_glob hg hm r hd) fun _ H _ ⟨_, U, _, q⟩ => q v H (Same.refl H) (w U H)
/-! ## operators by values -/
theorem tD.mono {m : Md} {f : Rho → Out D} {σ : L2.St} {H : Hp} {Q Q' : VK} (h : tD X H0 W m f σ H Q) (i : ∀ v H', Q v H' → Q' v H') : tD X H0 W m f σ H Q' := by
  obtain ⟨ρ, U, P, q⟩ := h
  refine ⟨ρ, U, P, ?_⟩
  revert q
  cases f ρ with
  | ok d => exact fun q v H' s r => i v H' (q v H' s r)
  | exc c fs => exact fun q => q
  | stuck => exact fun q => q
theorem tD.two {m : Md} {r : R2} {g : D → D → Out D} {fa fb : Rho → Out D} {σ : L2.St} {H : Hp} {Q : VK}
    (hr : ∀ σ U H v u x y Q, (∀ p, H p = none → ¬ U p) → BRep X.K U H v x → BRep X.K U H u y → PostM X W m σ H U Q (g x y) → r v u H Q)
    (h : tD X H0 W m (fun ρ => (fa ρ).bind fun x => (fb ρ).bind fun y => g x y) σ H Q) : tOp r (tD X H0 W .b fa) (tD X H0 W .b fb) σ H Q :=
  (tD.bind2 h).mono fun v _ h3 => h3.mono fun u H2 ⟨U, x, y, hf, r1, r2, q⟩ => hr σ U H2 v u x y Q hf r1 r2 q
theorem de_op {op : Operator} {r : R2} {g : D → D → Out D} {m : Md} {a b : Expr} {fa fb : Rho → Out D} {pos : Pos} (ho : OpR X (binaryOp op) r)
    (hr : ∀ σ U H v u x y Q, (∀ p, H p = none → ¬ U p) → BRep X.K U H v x → BRep X.K U H u y → PostM X W m σ H U Q (g x y) → r v u H Q) (ha : DE X H0 W .b a fa) (hb : DE X H0 W .b b fb) :
    DE X H0 W m (.BinOp a op b pos) fun ρ => (fa ρ).bind fun x => (fb ρ).bind fun y => g x y :=
  PE.imp (pe_op ho ha hb) fun _ _ _ h => tD.two hr h
theorem de_cmp {op : CmpOp} {r : R2} {g : D → D → Out D} {m : Md} {a b : Expr} {fa fb : Rho → Out D} {pos : Pos} (ho : OpR X (compareOp op) r) (hm : behindInMarks op b = false)
    (hr : ∀ σ U H v u x y Q, (∀ p, H p = none → ¬ U p) → BRep X.K U H v x → BRep X.K U H u y → PostM X W m σ H U Q (g x y) → r v u H Q) (ha : DE X H0 W .b a fa) (hb : DE X H0 W .b b fb) :
    DE X H0 W m (.Compare a [op] [b] pos) fun ρ => (fa ρ).bind fun x => (fb ρ).bind fun y => g x y :=
  PE.imp (pe_cmpR ho ha hb hm) fun _ _ _ h => tD.two hr h
theorem de_un {op : UnaryOp} {r : V → Hp → VK → Prop} {g : D → Out D} {m : Md} {a : Expr} {fa : Rho → Out D} {pos : Pos} (ho : UnR X (unaryOp op) r)
    (hr : ∀ σ U H v x Q, (∀ p, H p = none → ¬ U p) → BRep X.K U H v x → PostM X W m σ H U Q (g x) → r v H Q) (ha : DE X H0 W .b a fa) :
    DE X H0 W m (.UnaryOp op a pos) fun ρ => (fa ρ).bind g :=
  PE.imp (pe_un ho ha) fun σ _ Q h => (tD.bind1 h).mono fun v H1 ⟨U, x, hf, r1, q⟩ => hr σ U H1 v x Q hf r1 q
end
end Mp
namespace Mp
open PySem PySem.Spec PyProof.Rows L2
/-! ## binary operators -/
def smallI (i : Int) : Bool := decide (-(2 ^ 64) < i) && decide (i < 2 ^ 64)
def addD : D → D → Out D
  | .int i, .int j => .ok (.int (i + j))
  | .str x, .str y => if x.length + y.length ≤ sizeLine then .ok (.str (x ++ y)) else .stuck
  | .tuple xs, .tuple ys => if xs.length + ys.length ≤ sizeLine then .ok (.tuple (xs ++ ys)) else .stuck
  | .list xs, .list ys => if xs.length + ys.length ≤ sizeLine then .ok (.list (xs ++ ys)) else .stuck
  | _, _ => .stuck
def subD : D → D → Out D
  | .int i, .int j => .ok (.int (i - j))
  | _, _ => .stuck
def mulD : D → D → Out D
  | .int i, .int j => if smallI i || smallI j then .ok (.int (i * j)) else .stuck
  | .tuple xs, .int k => if xs ≠ [] ∧ 2 ≤ k ∧ k ≤ 1000 ∧ xs.length ≤ 1000 then .ok (.tuple (List.replicate k.toNat xs).flatten) else if k = 1 then .ok (.tuple xs) else if xs ≠ [] ∧ -1000 ≤ k ∧ k ≤ 0 then .ok (.tuple []) else .stuck
  | .list xs, .int k => if -1000000 ≤ k ∧ k ≤ 1000000 ∧ xs.length * k.toNat ≤ sizeLine then .ok (.list (List.replicate k.toNat xs).flatten) else .stuck
  | _, _ => .stuck
def fdivD : D → D → Out D
  | .int i, .int j => if j ≠ 0 ∧ j.natAbs < 1073741824 then .ok (.int (i.fdiv j)) else if 0 < j ∧ j.natAbs.log2 < 9000 then .ok (.int (i / j)) else .stuck
  | _, _ => .stuck
def modD : D → D → Out D
  | .int i, .int j => if j ≠ 0 then .ok (.int (i.fmod j)) else .stuck
  | _, _ => .stuck
def powD : D → D → Out D
  | .int i, .int j => if 0 ≤ j ∧ j ≤ 1000000 ∧ i.natAbs < 2 ^ 64 then .ok (.int (i ^ j.toNat)) else .stuck
  | _, _ => .stuck
/-! ### a tuple, once -/
theorem tuple_once (a : Addr) (its : Array Value) (k : Nat) (dd : Option Addr) (sl : Array (Option Value)) (t : Tok) :
    Meets (Builtin.«tuple.__mul__» ⟨[.ref a, .int 1 t], []⟩) (fun _ R s => s.heap.get? a = some ⟨.type "tuple", dd, .seq its k, sl⟩ ∧ R (.ok (.ret (.ref a))) s) :=
  .of_wp fun pg ww B R st h => by
    obtain ⟨hp, g, d, tk, os⟩ := st
    obtain ⟨hl, q⟩ := h
    have f1 := AutoSeq1.idx_int
    wp_walk using wpAny_loadPart' hl
    exact ⟨_, rfl, q⟩
def rOnce (K : PySem.W.Frag) : R2 := fun x y H Q => ∃ a xs, x = .ref a ∧ y = .int 1 ∧ SqT K H a xs ∧ Q (.ref a) H
theorem op_once {X : Cx} : OpR X (binaryOp .Mult) (rOnce X.K) := by
  intro pins s σ H x y v u Q I rx ry h
  obtain ⟨a, xs, rfl, rfl, hT, q⟩ := h
  cases rx
  obtain ⟨t, rfl⟩ := ry
  obtain ⟨its, r, ⟨⟨cls, dd, data, sl⟩, ho, hc, m, hd⟩, hs⟩ := I.tuple hT
  simp only at hc hd
  subst hc hd
  have hi := typeIs_int s 1 t
  have fin : EP X pins σ Q (.ref a) s := ⟨.ref a, H, I, rfl, q⟩
  have c2 := call_meets (prog := X.prog) (w := X.w) (A := X.A) (E := X.xe) (Q := EP X pins σ Q) (s := s) F.slot_tuple_mul (self := .ref a) ⟨_, ho, rfl⟩ F.entry_tuple_mul
    (F.args_tuple_mul_2 _ _) (tuple_once a its.toArray m dd sl t) ⟨ho, fin⟩
  refine wpAny_binaryOp_repeat_ref (T := "tuple") (by decide) ⟨_, ho, rfl⟩ (U := "int") (fun z => typeIs_int z 1 t) noFill_tuple_mul F.fills_int_mul F.slot_int_rmul
    repeat_tuple F.slot_int_index.lookup ?_
  exact call_meets F.slot_int_rmul hi F.entry_int_rmul (F.args_int_rmul_2 _ _) (int_rmul_tuple 1 t a its.toArray m dd sl) ⟨ho, rfl, ⟨_, ho, rfl⟩, c2⟩
theorem tuple_none (a : Addr) (its : Array Value) (n : Nat) (dd : Option Addr) (sl : Array (Option Value)) (x : Int) (u : Tok) (c0 : (decide (x < -(2 ^ 63)) || decide (x ≥ 2 ^ 63)) = false) (c1 : (its.isEmpty || x == 1) = false) (c2 : (decide (x ≤ 0) || its.isEmpty) = true) :
    Meets (Builtin.«tuple.__mul__» ⟨[.ref a, .int x u], []⟩) (fun _ R s => s.heap.get? a = some ⟨.type "tuple", dd, .seq its n, sl⟩ ∧ R (.ok (.ret (Value.ref s.heap.objs.size))) { s with heap := s.heap.push { cls := Value.type "tuple", data := Data.seq #[] }, toks := s.toks }) :=
  .of_wp fun pg ww B R st h => by
    obtain ⟨hp, g, d, tk, os⟩ := st
    obtain ⟨hl, q⟩ := h
    have f1 := AutoSeq1.idx_int
    wp_walk using wpAny_loadPart' hl
    repeat (first
      | (refine wpAny_ite_false (decide_eq_false (by rw [c0]; exact Bool.false_ne_true)) ?_; wp_walk using wpAny_loadPart' hl)
      | (refine wpAny_ite_false (decide_eq_false (by rw [c1]; exact Bool.false_ne_true)) ?_; wp_walk using wpAny_loadPart' hl)
      | (refine wpAny_ite_true (decide_eq_true (by rw [c2])) ?_; wp_walk using wpAny_loadPart' hl))
    exact ⟨_, rfl, q⟩
def rNone (K : PySem.W.Frag) : R2 := fun x y H Q => ∃ a k xs, x = .ref a ∧ y = .int k ∧ SqT K H a xs ∧ xs ≠ [] ∧ (-1000 ≤ k ∧ k ≤ 0) ∧ Fz H Q []
theorem op_none {X : Cx} : OpR X (binaryOp .Mult) (rNone X.K) := by
  intro pins s σ H x y v u Q I rx ry h
  obtain ⟨a, k, xs, rfl, rfl, hT, hne, ⟨k1, k2⟩, q⟩ := h
  cases rx
  obtain ⟨t, rfl⟩ := ry
  obtain ⟨its, r, ⟨⟨cls, dd, data, sl⟩, ho, hc, m, hd⟩, hs⟩ := I.tuple hT
  simp only at hc hd
  subst hc hd
  have he : its.toArray.isEmpty = false := by
    cases r with
    | nil => exact absurd rfl hne
    | cons _ _ => rfl
  have b0 : (decide (k < -(2 ^ 63)) || decide (k ≥ 2 ^ 63)) = false := by
    simp only [Bool.or_eq_false_iff, decide_eq_false_iff_not]
    omega
  have b1 : (its.toArray.isEmpty || k == 1) = false := by
    simp only [he, Bool.false_or, beq_eq_false_iff_ne]
    omega
  have b2 : (decide (k ≤ 0) || its.toArray.isEmpty) = true := by
    simp only [he, Bool.or_false, decide_eq_true_eq]
    exact k2
  have fin : EP X pins σ Q (.ref s.heap.objs.size) { s with heap := s.heap.push { cls := .type "tuple", data := .seq #[] } } := fz_ep (ws := #[]) I .nil (Nat.zero_le _) q
  have c2 := call_meets (prog := X.prog) (w := X.w) (A := X.A) (E := X.xe) (Q := EP X pins σ Q) (s := s) F.slot_tuple_mul (self := .ref a) ⟨_, ho, rfl⟩ F.entry_tuple_mul
    (F.args_tuple_mul_2 _ _) (tuple_none a its.toArray m dd sl k t b0 b1 b2) ⟨ho, fin⟩
  refine wpAny_binaryOp_repeat_ref (T := "tuple") (by decide) ⟨_, ho, rfl⟩ (U := "int") (fun z => typeIs_int z k t) noFill_tuple_mul F.fills_int_mul F.slot_int_rmul
    repeat_tuple F.slot_int_index.lookup ?_
  exact call_meets F.slot_int_rmul (typeIs_int s k t) F.entry_int_rmul (F.args_int_rmul_2 _ _) (int_rmul_tuple k t a its.toArray m dd sl) ⟨ho, rfl, ⟨_, ho, rfl⟩, c2⟩
section
variable {X : Cx} {W : WX} {σ : L2.St} {U : Addr → Prop} {H : Hp} {Q : VK}
theorem PostM.val {d : D} {v : V} (h : PostM X W .v σ H U Q (.ok d)) (r : Rep X.K U H v d) : Q v H := h v H (Same.refl H) r
theorem PostM.tup {ds : List D} {vs : List V} (h : PostM X W .v σ H U Q (.ok (.tuple ds))) (hf : ∀ p, H p = none → ¬ U p) (r : Reps X.K U H vs ds) : Fz H Q vs := fun p q hp hq =>
  h _ _ (same_new hp) (.tup (.inl ⟨hf p hp, q, upd_same, hq⟩) (r.mono (Kp.same (same_new hp))))
theorem PostM.lst {ds : List D} {vs : List V} (h : PostM X W .f σ H U Q (.ok (.list ds))) (hf : ∀ p, H p = none → ¬ U p) (r : Reps X.K U H vs ds) : ∀ p, H p = none → Q (.ref p) (upd H p (.lst vs)) := fun p hp =>
  h _ _ (same_new hp) ⟨p, rfl, hp, vs, upd_same, r.mono ⟨fun a o e _ => same_new hp _ _ e, fun a z => z.imp id fun e => by rw [e]; exact hp⟩⟩
/-- modes of a result: .f where it is a list or a dict, else .v -/
def Md.le : Md → D → Prop
  | .v, _ => True
  | .b, _ => True
  | .f, .list _ => True
  | .f, .dict _ => True
  | .f, _ => False
end
section
variable {X : Cx}
/-- list + list -/
def rCatL : R2 := fun x y H Q => ∃ (l b : Addr) (xs zs : List V), (x = .ref l ∧ y = .ref b) ∧ (Rd H l (.lst xs) ∧ Rd H b (.lst zs)) ∧ xs.length + zs.length ≤ sizeLine ∧ ∀ p, H p = none → Q (.ref p) (upd H p (.lst (xs ++ zs)))
theorem rd_lst {pins : List (Addr × Obj)} {s : Shared} {σ : L2.St} {H : Hp} (I : Inv X pins σ H s) {l : Addr} {xs : List V} (h : Rd H l (.lst xs)) :
    xs.length ≤ sizeLine ∧ ∃ (its : List Value) (n : Nat), Vals xs its ∧ s.heap.get? l = some { cls := .type "list", data := .seq its.toArray n } := h.ok I.hok
theorem op_catL : OpR X (binaryOp .Add) rCatL := by
  intro pins s σ H x y v u Q I rx ry h
  obtain ⟨l, b, xs, zs, ⟨rfl, rfl⟩, ⟨hH, hB⟩, hz, q⟩ := h
  cases rx
  cases ry
  obtain ⟨_, i1, n1, v1, g1⟩ := rd_lst I hH
  obtain ⟨_, i2, n2, v2, g2⟩ := rd_lst I hB
  have l1 := v1.length
  have l2 := v2.length
  refine PySem.P.add_list g1 g2 ?_ (by simp only [List.size_toArray]; omega)
  have ea : i1.toArray ++ i2.toArray = (i1 ++ i2).toArray := by simp
  rw [ea]
  exact ⟨.ref _, _, I.lnew (t' := s.toks) (v1.append v2) (by rw [List.length_append]; omega), rfl, q _ I.fresh⟩
/-- list * int -/
def rRepL : R2 := fun x y H Q => ∃ (l : Addr) (k : Int) (xs : List V), (x = .ref l ∧ y = .int k) ∧ Rd H l (.lst xs) ∧ (-1000000 ≤ k ∧ k ≤ 1000000) ∧ xs.length * k.toNat ≤ sizeLine ∧ ∀ p, H p = none → Q (.ref p) (upd H p (.lst (List.replicate k.toNat xs).flatten))
theorem cap_mul {n m : Nat} (h : n * m ≤ sizeLine) : ¬ n * m > (2 ^ 63 - 1) / 8 := fun z => by
  have b : (sizeLine : Nat) ≤ (2 ^ 63 - 1) / 8 := by decide
  exact absurd (Nat.lt_of_lt_of_le z h) (Nat.not_lt.mpr b)
theorem fold_cat (us : List Value) (m : Nat) : List.foldl (fun p q => p ++ q) #[] (List.replicate (if us.toArray.isEmpty = true then 0 else m) us.toArray) = (List.replicate m us).flatten.toArray := by
  cases us with
  | nil => simp
  | cons u us =>
    rw [if_neg (by simp)]
    have := foldl_rep (u :: us) m []
    rw [List.nil_append] at this
    exact this
theorem op_repL : OpR X (binaryOp .Mult) rRepL := by
  intro pins s σ H x y v u Q I rx ry h
  obtain ⟨l, k, xs, ⟨rfl, rfl⟩, hl, ⟨k1, k2⟩, hz, q⟩ := h
  cases rx
  obtain ⟨t, rfl⟩ := ry
  obtain ⟨_, us, m, hv, hg⟩ := rd_lst I hl
  have hs : us.toArray.size * k.toNat ≤ sizeLine := by
    rw [List.size_toArray, ← hv.length]
    exact hz
  have hf : ¬ (!Builtin.List.listFitsIndex k) = true := by
    rw [fitsIndex_both (by omega) (by omega)]
    decide
  have hn : ¬ Builtin.List.listTooLong (us.toArray.size * k.toNat) = true := by
    rw [notLongL hs]
    decide
  have hi := typeIs_int s k t
  have fin := I.lnew (t' := s.toks) (hv.rep k.toNat) (by rw [PyProof.Rows.lm_len_rep_flat, Nat.mul_comm]; exact hz)
  have c2 := call_meets (prog := X.prog) (w := X.w) (A := X.A) (E := X.xe) (Q := EP X pins σ Q) (s := s) F.slot_list_mul (self := .ref l) ⟨_, hg, rfl⟩ F.entry_list_mul
    (F.args_list_mul_2 _ _) (AutoListH.list___mul___list_int_3 l us.toArray m k t hf (cap_mul hs) hn) ⟨hg, by
      rw [fold_cat]
      exact ⟨.ref _, _, fin, rfl, q _ I.fresh⟩⟩
  refine wpAny_binaryOp_repeat_ref (T := "list") (by decide) ⟨_, hg, rfl⟩ (U := "int") (fun z => typeIs_int z k t) noFill_list_mul F.fills_int_mul F.slot_int_rmul
    repeat_list F.slot_int_index.lookup ?_
  exact call_meets F.slot_int_rmul hi F.entry_int_rmul (F.args_int_rmul_2 _ _) (int___rmul___int_list k t l us.toArray m) ⟨hg, rfl, ⟨_, hg, rfl⟩, c2⟩
def rAdd4 (K : PySem.W.Frag) : R2 := fun x y H Q => (∃ i j, x = .int i ∧ y = .int j ∧ Q (.int (i + j)) H) ∨ (∃ i j, x = .str i ∧ y = .str j ∧ i.length + j.length ≤ sizeLine ∧ Q (.str (i ++ j)) H) ∨ rCatN K x y H Q ∨ rCatL x y H Q
theorem op_add4 : OpR X (binaryOp .Add) (rAdd4 X.K) := OpR.or op_add (OpR.or op_add_str (OpR.or op_catN op_catL))
end
section
variable {X : Cx} {H0 : Ent} {W : WX} {a b : Expr} {fa fb : Rho → Out D} {pos : Pos}
theorem PostM.stuck' {m : Md} {σ : L2.St} {H : Hp} {U : Addr → Prop} {Q : VK} {P : Prop} (h : PostM X W m σ H U Q .stuck) : P := h.elim
/-- what a list's place wants, in mode v -/
theorem PostM.lstV {σ : L2.St} {H : Hp} {U : Addr → Prop} {Q : VK} {ds : List D} {vs : List V} (h : PostM X W .v σ H U Q (.ok (.list ds))) (hf : ∀ p, H p = none → ¬ U p) (r : Reps X.K U H vs ds) : ∀ p, H p = none → Q (.ref p) (upd H p (.lst vs)) := fun p hp =>
  h _ _ (same_new hp) (.lst (hf p hp) (.inl upd_same) (r.mono (Kp.same (same_new hp))))
theorem reps_nil {K : PySem.W.Frag} {U : Addr → Prop} {H : Hp} {vs : List V} {ds : List D} (r : Reps K U H vs ds) : vs = [] ↔ ds = [] := by
  cases r with
  | nil => simp
  | cons _ _ => simp
theorem de_add (ha : DE X H0 W .b a fa) (hb : DE X H0 W .b b fb) : DE X H0 W .v (.BinOp a .Add b pos) fun ρ => (fa ρ).bind fun x => (fb ρ).bind fun y => addD x y := by
  refine de_op (m := .v) op_add4 (fun σ U H v u x y Q hf r1 r2 q => ?_) ha hb
  cases x with
  | int i => cases y with
    | int j =>
      obtain rfl := r1.int
      obtain rfl := r2.int
      exact .inl ⟨i, j, rfl, rfl, q.val (.int _)⟩
    | _ => exact q.elim
  | str i => cases y with
    | str j =>
      obtain rfl := r1.str
      obtain rfl := r2.str
      simp only [addD] at q
      split at q
      · rename_i hl
        exact .inr (.inl ⟨i, j, rfl, rfl, hl, q.val (.str _)⟩)
      · exact q.elim
    | _ => exact q.elim
  | tuple xs => cases y with
    | tuple ys =>
      obtain ⟨p, vs, rfl, s1, t1⟩ := r1.tup
      obtain ⟨p2, ws, rfl, s2, t2⟩ := r2.tup
      simp only [addD] at q
      split at q
      · rename_i hl
        have tw := t1.append t2
        refine .inr (.inr (.inl ⟨p, p2, vs, ws, ⟨rfl, rfl⟩, ⟨s1, s2⟩, by rw [t1.length, t2.length]; exact hl, fun e => ?_, fun _ e => ?_, fun _ _ => q.tup hf tw⟩))
        · have e2 : xs = [] := (reps_nil t1).mp e
          subst e2
          rcases r2 with r2 | ⟨_, _, _, z⟩
          · exact q.val r2
          · exact z.elim
        · have e2 : ys = [] := (reps_nil t2).mp e
          subst e2
          rw [List.append_nil] at q
          rcases r1 with r1 | ⟨_, _, _, z⟩
          · exact q.val r1
          · exact z.elim
      · exact q.elim
    | _ => exact q.elim
  | list xs => cases y with
    | list ys =>
      obtain ⟨p, vs, rfl, s1, t1⟩ := r1.lst
      obtain ⟨p2, ws, rfl, s2, t2⟩ := r2.lst
      simp only [addD] at q
      split at q
      · rename_i hl
        exact .inr (.inr (.inr ⟨p, p2, vs, ws, ⟨rfl, rfl⟩, ⟨s1, s2⟩, by rw [t1.length, t2.length]; exact hl, q.lstV hf (t1.append t2)⟩))
      · exact q.elim
    | _ => exact q.elim
  | _ => cases y <;> exact q.elim
theorem Reps.rep {K : PySem.W.Frag} {U : Addr → Prop} {H : Hp} {vs : List V} {ds : List D} (t : Reps K U H vs ds) : ∀ n : Nat, Reps K U H (List.replicate n vs).flatten (List.replicate n ds).flatten
  | 0 => .nil
  | n + 1 => by
    rw [List.replicate_succ, List.replicate_succ, List.flatten_cons, List.flatten_cons]
    exact t.append (Reps.rep t n)
theorem de_sub (ha : DE X H0 W .b a fa) (hb : DE X H0 W .b b fb) : DE X H0 W .v (.BinOp a .Sub b pos) fun ρ => (fa ρ).bind fun x => (fb ρ).bind fun y => subD x y := by
  refine de_op (m := .v) op_sub (fun σ U H v u x y Q hf r1 r2 q => ?_) ha hb
  cases x with
  | int i => cases y with
    | int j =>
      obtain rfl := r1.int
      obtain rfl := r2.int
      exact ⟨i, j, rfl, rfl, q.val (.int _)⟩
    | _ => exact q.elim
  | _ => cases y <;> exact q.elim
theorem de_mod (ha : DE X H0 W .b a fa) (hb : DE X H0 W .b b fb) : DE X H0 W .v (.BinOp a .Mod b pos) fun ρ => (fa ρ).bind fun x => (fb ρ).bind fun y => modD x y := by
  refine de_op (m := .v) op_modN (fun σ U H v u x y Q hf r1 r2 q => ?_) ha hb
  cases x with
  | int i => cases y with
    | int j =>
      obtain rfl := r1.int
      obtain rfl := r2.int
      simp only [modD] at q
      split at q
      · rename_i hj
        exact ⟨i, j, rfl, rfl, hj, q.val (.int _)⟩
      · exact q.elim
    | _ => exact q.elim
  | _ => cases y <;> exact q.elim
theorem de_pow (ha : DE X H0 W .b a fa) (hb : DE X H0 W .b b fb) : DE X H0 W .v (.BinOp a .Pow b pos) fun ρ => (fa ρ).bind fun x => (fb ρ).bind fun y => powD x y := by
  refine de_op (m := .v) op_pow (fun σ U H v u x y Q hf r1 r2 q => ?_) ha hb
  cases x with
  | int i => cases y with
    | int j =>
      obtain rfl := r1.int
      obtain rfl := r2.int
      simp only [powD] at q
      split at q
      · rename_i hj
        exact ⟨i, j, rfl, rfl, hj, q.val (.int _)⟩
      · exact q.elim
    | _ => exact q.elim
  | _ => cases y <;> exact q.elim
theorem de_fdiv (ha : DE X H0 W .b a fa) (hb : DE X H0 W .b b fb) : DE X H0 W .v (.BinOp a .FloorDiv b pos) fun ρ => (fa ρ).bind fun x => (fb ρ).bind fun y => fdivD x y := by
  refine de_op (m := .v) (OpR.or op_fdivN op_fdivW) (fun σ U H v u x y Q hf r1 r2 q => ?_) ha hb
  cases x with
  | int i => cases y with
    | int j =>
      obtain rfl := r1.int
      obtain rfl := r2.int
      simp only [fdivD] at q
      split at q
      · rename_i hj
        exact .inl ⟨i, j, rfl, rfl, hj, q.val (.int _)⟩
      · split at q
        · rename_i hj
          exact .inr ⟨i, j, rfl, rfl, hj, q.val (.int _)⟩
        · exact q.elim
    | _ => exact q.elim
  | _ => cases y <;> exact q.elim
theorem de_mul (ha : DE X H0 W .b a fa) (hb : DE X H0 W .b b fb) : DE X H0 W .v (.BinOp a .Mult b pos) fun ρ => (fa ρ).bind fun x => (fb ρ).bind fun y => mulD x y := by
  refine de_op (m := .v) (OpR.or op_mul (OpR.or op_repN (OpR.or op_once (OpR.or op_repL op_none)))) (fun σ U H v u x y Q hf r1 r2 q => ?_) ha hb
  cases x with
  | int i => cases y with
    | int j =>
      obtain rfl := r1.int
      obtain rfl := r2.int
      simp only [mulD] at q
      split at q
      · rename_i hj
        refine .inl ⟨i, j, rfl, rfl, ?_, q.val (.int _)⟩
        simp only [smallI, Bool.or_eq_true, Bool.and_eq_true, decide_eq_true_eq] at hj
        exact hj
      · exact q.elim
    | _ => exact q.elim
  | tuple xs => cases y with
    | int k =>
      obtain ⟨p, vs, rfl, s1, t1⟩ := r1.tup
      obtain rfl := r2.int
      simp only [mulD] at q
      split at q
      · rename_i hk
        refine .inr (.inl ⟨p, k, vs, ⟨rfl, rfl⟩, s1, fun e => hk.1 ((reps_nil t1).mp e), ⟨hk.2.1, hk.2.2.1⟩, by rw [t1.length]; exact hk.2.2.2, q.tup hf ?_⟩)
        generalize k.toNat = n
        induction n with
        | zero => exact .nil
        | succ n ih =>
          rw [List.replicate_succ, List.replicate_succ, List.flatten_cons, List.flatten_cons]
          exact t1.append ih
      · split at q
        · rename_i hk
          subst hk
          refine .inr (.inr (.inl ⟨p, vs, rfl, rfl, s1, ?_⟩))
          rcases r1 with r1 | ⟨_, _, _, z⟩
          · exact q.val r1
          · exact z.elim
        · split at q
          · rename_i hk
            exact .inr (.inr (.inr (.inr ⟨p, k, vs, rfl, rfl, s1, fun e => hk.1 ((reps_nil t1).mp e), hk.2, q.tup hf .nil⟩)))
          · exact q.elim
    | _ => exact q.elim
  | list xs => cases y with
    | int k =>
      obtain ⟨p, vs, rfl, s1, t1⟩ := r1.lst
      obtain rfl := r2.int
      simp only [mulD] at q
      split at q
      · rename_i hk
        exact .inr (.inr (.inr (.inl ⟨p, k, vs, ⟨rfl, rfl⟩, s1, ⟨hk.1, hk.2.1⟩, by rw [t1.length]; exact hk.2.2, q.lstV hf (Reps.rep t1 k.toNat)⟩)))
      · exact q.elim
    | _ => exact q.elim
  | _ => cases y <;> exact q.elim
def negD : D → Out D
  | .int i => .ok (.int (-i))
  | _ => .stuck
theorem de_neg (ha : DE X H0 W .b a fa) : DE X H0 W .v (.UnaryOp .USub a pos) fun ρ => (fa ρ).bind negD := by
  refine de_un (m := .v) un_neg (fun σ U H v x Q hf r1 q => ?_) ha
  cases x with
  | int i =>
    obtain rfl := r1.int
    exact ⟨i, rfl, q.val (.int _)⟩
  | _ => exact q.elim
end
end Mp
namespace Mp
open PySem PySem.Spec PyProof.Rows L2
/-! ## data without dicts, not too deep -/
mutual
def fitD : Nat → D → Bool
  | _, .none => true
  | _, .bool _ => true
  | _, .int _ => true
  | _, .str _ => true
  | n, .list xs => match n with
    | 0 => false
    | m + 1 => fitAll m xs
  | n, .tuple xs => match n with
    | 0 => false
    | m + 1 => fitAll m xs
  | _, .dict _ => false
def fitAll : Nat → List D → Bool
  | _, [] => true
  | n, x :: xs => fitD n x && fitAll n xs
end
mutual
theorem fitD_ok : ∀ (d : D) (n : Nat), fitD n d = true → d.plain = true ∧ d.depth ≤ n
  | .none, _, _ => ⟨rfl, Nat.zero_le _⟩
  | .bool _, _, _ => ⟨rfl, Nat.zero_le _⟩
  | .int _, _, _ => ⟨rfl, Nat.zero_le _⟩
  | .str _, _, _ => ⟨rfl, Nat.zero_le _⟩
  | .list xs, n, h => by
    cases n with
    | zero => simp [fitD] at h
    | succ m =>
      obtain ⟨h1, h2⟩ := fitAll_ok xs m (by simpa [fitD] using h)
      exact ⟨by simpa [PyData.plain] using h1, by simpa [PyData.depth] using h2⟩
  | .tuple xs, n, h => by
    cases n with
    | zero => simp [fitD] at h
    | succ m =>
      obtain ⟨h1, h2⟩ := fitAll_ok xs m (by simpa [fitD] using h)
      exact ⟨by simpa [PyData.plain] using h1, by simpa [PyData.depth] using h2⟩
  | .dict _, n, h => by simp [fitD] at h
theorem fitAll_ok : ∀ (ds : List D) (n : Nat), fitAll n ds = true → PyData.plainAll ds = true ∧ PyData.depthAll ds ≤ n
  | [], _, _ => ⟨rfl, Nat.zero_le _⟩
  | x :: xs, n, h => by
    simp only [fitAll, Bool.and_eq_true] at h
    obtain ⟨h1, h2⟩ := fitD_ok x n h.1
    obtain ⟨h3, h4⟩ := fitAll_ok xs n h.2
    exact ⟨by simp [PyData.plainAll, h1, h3], by simp only [PyData.depthAll]; omega⟩
end
section
variable {K : PySem.W.Frag} {U : Addr → Prop} {H : Hp}
mutual
theorem Rep.dp : ∀ {v : V} {d : D}, Rep K U H v d → d.plain = true → Dp K H v d
  | _, _, .non, _ => .non
  | _, _, .bl b, _ => .bl b
  | _, _, .int i, _ => .int i
  | _, _, .str x, _ => .str x
  | _, _, .tup h r, p => .tup (h.elim (fun q => .inl q.2.rd) fun q => q.sq H) (Reps.dp r (by simpa [PyData.plain] using p))
  | _, _, .lst _ h r, p => .lst (.inl h) (Reps.dp r (by simpa [PyData.plain] using p))
  | _, _, .dct _ _ _, p => by simp [PyData.plain] at p
  | _, _, .ins _ _ _ _, p => by simp [PyData.plain] at p
theorem Reps.dp : ∀ {vs : List V} {ds : List D}, Reps K U H vs ds → PyData.plainAll ds = true → DpAll K H vs ds
  | _, _, .nil, _ => .nil
  | _, _, .cons r t, p => by
    simp only [PyData.plainAll, Bool.and_eq_true] at p
    exact .cons (Rep.dp r p.1) (Reps.dp t p.2)
end
theorem BRep.dp {v : V} {d : D} (h : BRep K U H v d) (p : d.plain = true) : Dp K H v d := h.rep0.dp p
end
/-! ## comparisons -/
/-- how deep data are compared -/
abbrev dpt : Nat := 60
def eqD (x y : D) : Out D := if fitD dpt x = true ∧ fitD dpt y = true then .ok (.bool (PyData.eqv x y)) else .stuck
def neD (x y : D) : Out D := if fitD dpt x = true ∧ fitD dpt y = true then .ok (.bool (!PyData.eqv x y)) else .stuck
def noneD : D → Bool
  | .none => true
  | _ => false
def ltG (f : D → D → Bool) (x y : D) : Out D := if fitD dpt x = true ∧ fitD dpt y = true ∧ PySem.W.alike x y = true ∧ noneD x = false then .ok (.bool (f x y)) else .stuck
def ltD (x y : D) : Out D := match x, y with
  | .int i, .int j => .ok (.bool (decide (i < j)))
  | x, y => ltG PySem.W.dataLt x y
def gtD (x y : D) : Out D := match x, y with
  | .int i, .int j => .ok (.bool (decide (j < i)))
  | x, y => ltG (fun x y => PySem.W.dataLt y x) x y
def leD (x y : D) : Out D := match x, y with
  | .int i, .int j => .ok (.bool (decide (i ≤ j)))
  | x, y => ltG (fun x y => !PySem.W.dataLt y x) x y
def geD (x y : D) : Out D := match x, y with
  | .int i, .int j => .ok (.bool (decide (j ≤ i)))
  | x, y => ltG (fun x y => !PySem.W.dataLt x y) x y
def isND (x y : D) : Out D := match y with
  | .none => .ok (.bool (noneD x))
  | .bool b => match x with
    | .bool a => .ok (.bool (a == b))
    | _ => .stuck
  | _ => .stuck
def notND (x y : D) : Out D := match y with
  | .none => .ok (.bool (!noneD x))
  | .bool b => match x with
    | .bool a => .ok (.bool (!(a == b)))
    | _ => .stuck
  | _ => .stuck
section
variable {X : Cx}
def rDat (K : PySem.W.Frag) (g : D → D → Bool) (C : D → D → Prop) : R2 := fun x y H Q => ∃ d e, (Dp K H x d ∧ Dp K H y e) ∧ (fitD dpt d = true ∧ fitD dpt e = true) ∧ C d e ∧ Q (.bl (g d e)) H
theorem op_dat {f : Value → Value → Sem Value} {g : D → D → Bool} {C : D → D → Prop} (hu : X.A.units + 64 < cLine)
    (rule : ∀ (s : Shared) (v u : Value) (d e : D) (as bs : List Addr) (Q : Value → Shared → Prop), Reads s.heap v d as → Reads s.heap u e bs → d.plain = true → e.plain = true → X.A.units + 1 + min d.depth e.depth < cLine → C d e → Q (.bool (g d e)) s → wpAny (model X.prog X.w) X.A (f v u) Q X.xe s) :
    OpR X f (rDat X.K g C) := by
  intro pins s σ H x y v u Q I rx ry h
  obtain ⟨d, e, ⟨hd, he⟩, ⟨fd, fe⟩, hC, q⟩ := h
  obtain ⟨as, r1⟩ := Dp.reads I d x v hd rx
  obtain ⟨bs, r2⟩ := Dp.reads I e y u he ry
  obtain ⟨p1, p2⟩ := fitD_ok d dpt fd
  obtain ⟨p3, p4⟩ := fitD_ok e dpt fe
  exact rule s v u d e as bs _ r1 r2 p1 p3 (by have : dpt = 60 := rfl; omega) hC ⟨.bl _, H, I, rfl, q⟩
theorem op_eqP (hu : X.A.units + 64 < cLine) : OpR X (compareOp .Eq) (rDat X.K PyData.eqv fun _ _ => True) :=
  op_dat hu fun s v u d e as bs Q r1 r2 p1 p2 hd _ q => PySem.SeqAt.eq_plain r1 r2 p1 p2 (by omega) q
theorem op_neP (hu : X.A.units + 64 < cLine) : OpR X (compareOp .NotEq) (rDat X.K (fun x y => !PyData.eqv x y) fun _ _ => True) :=
  op_dat hu fun s v u d e as bs Q r1 r2 p1 p2 hd _ q => PySem.SeqAt.ne_plain r1 r2 p1 p2 (by omega) q
def Ord2 (x y : D) : Prop := PySem.W.alike x y = true ∧ x ≠ .none
theorem op_ltP (hu : X.A.units + 64 < cLine) : OpR X (compareOp .Lt) (rDat X.K PySem.W.dataLt Ord2) :=
  op_dat hu fun s v u d e as bs Q r1 r2 p1 p2 hd c q => PySem.W.lt_data r1 r2 c.1 c.2 (by omega) q
theorem op_gtP (hu : X.A.units + 64 < cLine) : OpR X (compareOp .Gt) (rDat X.K (fun x y => PySem.W.dataLt y x) Ord2) :=
  op_dat hu fun s v u d e as bs Q r1 r2 p1 p2 hd c q => PySem.W.gt_data r1 r2 c.1 c.2 (by omega) q
theorem op_leP (hu : X.A.units + 64 < cLine) : OpR X (compareOp .LtE) (rDat X.K (fun x y => !PySem.W.dataLt y x) Ord2) :=
  op_dat hu fun s v u d e as bs Q r1 r2 p1 p2 hd c q => PySem.W.le_data r1 r2 c.1 c.2 (by omega) q
theorem op_geP (hu : X.A.units + 64 < cLine) : OpR X (compareOp .GtE) (rDat X.K (fun x y => !PySem.W.dataLt x y) Ord2) :=
  op_dat hu fun s v u d e as bs Q r1 r2 p1 p2 hd c q => PySem.W.ge_data r1 r2 c.1 c.2 (by omega) q
end
/-- an operator's row: its reading follows from what the data's function says -/
def Row2 (X : Cx) (W : WX) (m : Md) (r : R2) (g : D → D → Out D) : Prop :=
  ∀ σ U H v u x y Q, (∀ p, H p = none → ¬ U p) → BRep X.K U H v x → BRep X.K U H u y → PostM X W m σ H U Q (g x y) → r v u H Q
section
variable {X : Cx} {W : WX}
theorem row_dat {g : D → D → Bool} {C : D → D → Prop} {f : D → D → Out D} (h : ∀ x y d, f x y = .ok d → fitD dpt x = true ∧ fitD dpt y = true ∧ C x y ∧ d = .bool (g x y)) (hn : ∀ x y, f x y = .stuck ∨ ∃ d, f x y = .ok d) :
    Row2 X W .v (rDat X.K g C) f := fun σ U H v u x y Q hf r1 r2 q => by
  rcases hn x y with e | ⟨d, e⟩
  · rw [e] at q
    exact q.elim
  · rw [e] at q
    obtain ⟨f1, f2, c, rfl⟩ := h x y d e
    exact ⟨x, y, ⟨r1.dp (fitD_ok x _ f1).1, r2.dp (fitD_ok y _ f2).1⟩, ⟨f1, f2⟩, c, q.val (.bl _)⟩
theorem row_eq : Row2 X W .v (rDat X.K PyData.eqv fun _ _ => True) eqD := row_dat (fun x y d e => by
  unfold eqD at e
  split at e
  · rename_i h
    cases e
    exact ⟨h.1, h.2, trivial, rfl⟩
  · cases e) fun x y => by
  unfold eqD
  split
  · exact .inr ⟨_, rfl⟩
  · exact .inl rfl
theorem row_ne : Row2 X W .v (rDat X.K (fun x y => !PyData.eqv x y) fun _ _ => True) neD := row_dat (fun x y d e => by
  unfold neD at e
  split at e
  · rename_i h
    cases e
    exact ⟨h.1, h.2, trivial, rfl⟩
  · cases e) fun x y => by
  unfold neD
  split
  · exact .inr ⟨_, rfl⟩
  · exact .inl rfl
theorem row_ltG {g : D → D → Bool} : Row2 X W .v (rDat X.K g Ord2) (ltG g) := row_dat (fun x y d e => by
  unfold ltG at e
  split at e
  · rename_i h
    obtain ⟨h1, h2, h3, h4⟩ := h
    injection e with e
    refine ⟨h1, h2, ⟨h3, fun z => ?_⟩, e.symm⟩
    rw [z] at h4
    cases h4
  · cases e) fun x y => by
  unfold ltG
  split
  · exact .inr ⟨_, rfl⟩
  · exact .inl rfl
/-- with the ints' own rule -/
theorem row_int {g : D → D → Bool} {k : Int → Int → Bool} {f : D → D → Out D} {r : R2} (hi : ∀ i j, f (.int i) (.int j) = .ok (.bool (k i j))) (ho : ∀ x y, (∀ i j, ¬ (x = .int i ∧ y = .int j)) → f x y = ltG g x y) (hr : Row2 X W .v r (ltG g)) :
    Row2 X W .v (fun x y H Q => rI0 (fun i j => .bl (k i j)) x y H Q ∨ r x y H Q) f := fun σ U H v u x y Q hf r1 r2 q => by
  by_cases h : ∃ i j, x = .int i ∧ y = .int j
  · obtain ⟨i, j, rfl, rfl⟩ := h
    rw [hi] at q
    obtain rfl := r1.int
    obtain rfl := r2.int
    exact .inl ⟨i, j, rfl, rfl, q.val (.bl _)⟩
  · rw [ho x y fun i j z => h ⟨i, j, z⟩] at q
    exact .inr (hr σ U H v u x y Q hf r1 r2 q)
theorem row_lt : Row2 X W .v (fun x y H Q => rI0 (fun i j => .bl (decide (i < j))) x y H Q ∨ rDat X.K PySem.W.dataLt Ord2 x y H Q) ltD :=
  row_int (fun _ _ => rfl) (fun x y h => by unfold ltD; split <;> first | exact absurd ⟨rfl, rfl⟩ (h _ _) | rfl) row_ltG
theorem row_gt : Row2 X W .v (fun x y H Q => rI0 (fun i j => .bl (decide (j < i))) x y H Q ∨ rDat X.K (fun x y => PySem.W.dataLt y x) Ord2 x y H Q) gtD :=
  row_int (fun _ _ => rfl) (fun x y h => by unfold gtD; split <;> first | exact absurd ⟨rfl, rfl⟩ (h _ _) | rfl) row_ltG
theorem row_le : Row2 X W .v (fun x y H Q => rI0 (fun i j => .bl (decide (i ≤ j))) x y H Q ∨ rDat X.K (fun x y => !PySem.W.dataLt y x) Ord2 x y H Q) leD :=
  row_int (fun _ _ => rfl) (fun x y h => by unfold leD; split <;> first | exact absurd ⟨rfl, rfl⟩ (h _ _) | rfl) row_ltG
theorem row_ge : Row2 X W .v (fun x y H Q => rI0 (fun i j => .bl (decide (j ≤ i))) x y H Q ∨ rDat X.K (fun x y => !PySem.W.dataLt x y) Ord2 x y H Q) geD :=
  row_int (fun _ _ => rfl) (fun x y h => by unfold geD; split <;> first | exact absurd ⟨rfl, rfl⟩ (h _ _) | rfl) row_ltG
theorem brep_non {K : PySem.W.Frag} {U : Addr → Prop} {H : Hp} {v : V} {x : D} (r : BRep K U H v x) : decide (v = .non) = (noneD x) := by
  rcases r with r | ⟨a, rfl, _, o⟩
  · cases r <;> simp [noneD]
  · cases x <;> first | rfl | exact o.elim
theorem same_bool (a b : Bool) : isSame (.bool a) (.bool b) = pure (a == b) := by first | rfl | (cases a <;> cases b <;> rfl)
theorem op_isB : OpR X (compareOp .Is) (fun x y H Q => ∃ a b, x = .bl a ∧ y = .bl b ∧ Q (.bl (a == b)) H) := by
  intro pins s σ H x y v u Q I rx ry h
  obtain ⟨a, b, rfl, rfl, q⟩ := h
  cases rx
  cases ry
  show wpAny _ _ (do return Value.bool (← isSame (.bool a) (.bool b))) _ _ _
  rw [same_bool]
  exact wpAny_bind (wpAny_pure (wpAny_pure ⟨.bl _, H, I, rfl, q⟩))
theorem op_notB : OpR X (compareOp .IsNot) (fun x y H Q => ∃ a b, x = .bl a ∧ y = .bl b ∧ Q (.bl (!(a == b))) H) := by
  intro pins s σ H x y v u Q I rx ry h
  obtain ⟨a, b, rfl, rfl, q⟩ := h
  cases rx
  cases ry
  show wpAny _ _ (do return Value.bool (!(← isSame (.bool a) (.bool b)))) _ _ _
  rw [same_bool]
  exact wpAny_bind (wpAny_pure (wpAny_pure ⟨.bl _, H, I, rfl, q⟩))
theorem row_isN : Row2 X W .v (fun x y H Q => (y = .non ∧ Q (.bl (decide (x = .non))) H) ∨ ∃ a b, x = .bl a ∧ y = .bl b ∧ Q (.bl (a == b)) H) isND := fun σ U H v u x y Q hf r1 r2 q => by
  cases y with
  | none =>
    refine .inl ⟨r2.non, ?_⟩
    rw [brep_non r1]
    exact q.val (.bl _)
  | bool b =>
    cases x with
    | bool a =>
      obtain rfl := r1.bl
      obtain rfl := r2.bl
      exact .inr ⟨a, b, rfl, rfl, q.val (.bl _)⟩
    | _ => exact q.elim
  | _ => exact q.elim
theorem row_notN : Row2 X W .v (fun x y H Q => (y = .non ∧ Q (.bl (!decide (x = .non))) H) ∨ ∃ a b, x = .bl a ∧ y = .bl b ∧ Q (.bl (!(a == b))) H) notND := fun σ U H v u x y Q hf r1 r2 q => by
  cases y with
  | none =>
    refine .inl ⟨r2.non, ?_⟩
    rw [brep_non r1]
    exact q.val (.bl _)
  | bool b =>
    cases x with
    | bool a =>
      obtain rfl := r1.bl
      obtain rfl := r2.bl
      exact .inr ⟨a, b, rfl, rfl, q.val (.bl _)⟩
    | _ => exact q.elim
  | _ => exact q.elim
end
end Mp
namespace Mp
open PySem PySem.Spec PyProof.Rows L2
/-! ## dicts by data -/
def keyOf : D → Option Key
  | .int i => some (.inl i)
  | .str x => some (.inr x)
  | _ => none
def lookE (es : List (D × D)) (k : Key) : Option D := (es.find? fun p => decide (keyOf p.1 = some k)).map (·.2)
def putE (es : List (D × D)) (k : Key) (v : D) : List (D × D) :=
  if (es.any fun p => decide (keyOf p.1 = some k)) = true then es.map (fun p => if keyOf p.1 = some k then (p.1, v) else p) else es ++ [(keyD k, v)]
theorem keyOf_keyD (k : Key) : keyOf (keyD k) = some k := by cases k <;> rfl
theorem RepF.look {K : PySem.W.Frag} {U : Addr → Prop} {H : Hp} : ∀ {vs : List (Str × V)} {fs : List (D × D)}, RepF K U H vs fs → ∀ k, lookE fs k = none
  | _, _, .nil, _ => rfl
  | _, _, .cons (f := f) (d := d0) r t, k => by
    have e1 : ∀ es, lookE ((.tuple [.str f], d0) :: es) k = lookE es k := fun es => by simp [lookE, List.find?_cons, keyOf]
    rw [e1]
    exact RepF.look t k
theorem BRep.dctL {K : PySem.W.Frag} {U : Addr → Prop} {H : Hp} {v : V} {ds : List (D × D)} {k : Key} (h : BRep K U H v (.dict ds)) (hl : (lookE ds k).isSome = true) : ∃ a xs, v = .ref a ∧ Rd H a (.dK xs) ∧ RepK K U H xs ds := by
  cases hi : insB ds with
  | false => exact h.dct hi
  | true =>
    have no : ∀ {c : D} {x : D} {fs : List (D × D)} {vs : List (Str × V)}, RepF K U H vs fs → ds = (.tuple [c], x) :: fs → False := fun {c x fs vs} r e => by
      subst e
      have e1 : lookE ((.tuple [c], x) :: fs) k = lookE fs k := by simp [lookE, List.find?_cons, keyOf]
      rw [e1, r.look k] at hl
      cases hl
    rcases h with h | ⟨a, rfl, hu, h⟩
    · cases h with
      | dct _ h r =>
        rw [r.noIns] at hi
        cases hi
      | ins _ _ _ r => exact (no r rfl).elim
    · rcases h with ⟨vs, e, r⟩ | ⟨C, dx, c', vs, fs', e0, e, n, r⟩
      · rw [r.noIns] at hi
        cases hi
      · exact (no r e0).elim
theorem keyOf_brep {K : PySem.W.Frag} {U : Addr → Prop} {H : Hp} {v : V} {d : D} {k : Key} (e : keyOf d = some k) (r : BRep K U H v d) : v = kV k ∧ d = keyD k := by
  cases d with
  | int i =>
    obtain rfl := r.int
    cases e
    exact ⟨rfl, rfl⟩
  | str i =>
    obtain rfl := r.str
    cases e
    exact ⟨rfl, rfl⟩
  | _ => cases e
section
variable {K : PySem.W.Frag} {U : Addr → Prop} {H : Hp}
theorem RepK.look : ∀ {kvs : List (Key × V)} {es : List (D × D)}, RepK K U H kvs es → ∀ k, (lookE es k = none ∧ valV kvs k = none) ∨ ∃ v d, lookE es k = some d ∧ valV kvs k = some v ∧ Rep K U H v d
  | _, _, .nil, _ => .inl ⟨rfl, rfl⟩
  | _, _, .cons (k := k0) (v := v0) (d := d0) r t, k => by
    by_cases h : k0 = k
    · subst h
      exact .inr ⟨v0, d0, by simp [lookE, keyOf_keyD], valV_pos rfl, r⟩
    · have h2 : ¬ (keyOf (keyD k0) = some k) := by rw [keyOf_keyD]; exact fun z => h (Option.some.inj z)
      have e1 : ∀ es, lookE ((keyD k0, d0) :: es) k = lookE es k := fun es => by simp [lookE, List.find?_cons, h2]
      have e2 : ∀ kvs, valV ((k0, v0) :: kvs) k = valV kvs k := fun kvs => valV_neg h
      rw [e1, e2]
      exact RepK.look t k
theorem RepK.any : ∀ {kvs : List (Key × V)} {es : List (D × D)}, RepK K U H kvs es → ∀ k, (es.any fun p => decide (keyOf p.1 = some k)) = kvs.any fun p => decide (p.1 = k)
  | _, _, .nil, _ => rfl
  | _, _, .cons (k := k0) (v := v0) (d := d0) r t, k => by
    rw [List.any_cons, List.any_cons, RepK.any t k, keyOf_keyD]
    simp
theorem RepK.map {k : Key} {v : V} {d : D} (r : Rep K U H v d) : ∀ {kvs : List (Key × V)} {es : List (D × D)}, RepK K U H kvs es → RepK K U H (kvs.map fun p => if p.1 = k then (p.1, v) else p) (es.map fun p => if keyOf p.1 = some k then (p.1, d) else p)
  | _, _, .nil => .nil
  | _, _, .cons (k := k0) (v := v0) (d := d0) r0 t => by
    rw [List.map_cons, List.map_cons, keyOf_keyD]
    by_cases h : k0 = k
    · subst h
      rw [if_pos rfl, if_pos rfl]
      exact .cons r (RepK.map r t)
    · rw [if_neg h, if_neg fun z => h (Option.some.inj z)]
      exact .cons r0 (RepK.map r t)
theorem RepK.append : ∀ {kvs ws : List (Key × V)} {es fs : List (D × D)}, RepK K U H kvs es → RepK K U H ws fs → RepK K U H (kvs ++ ws) (es ++ fs)
  | _, _, _, _, .nil, s => s
  | _, _, _, _, .cons r t, s => .cons r (RepK.append t s)
theorem RepK.put {k : Key} {v : V} {d : D} (r : Rep K U H v d) {kvs : List (Key × V)} {es : List (D × D)} (h : RepK K U H kvs es) : RepK K U H (putK kvs k v) (putE es k d) := by
  unfold putK putE
  rw [h.any k]
  split
  · exact h.map r
  · exact h.append (.cons r .nil)
theorem putE_length (es : List (D × D)) (k : Key) (v : D) : (putE es k v).length ≤ es.length + 1 := by
  unfold putE
  split <;> simp
end
/-! ## in, not in -/
def inB (x y : D) : Option Bool := match y with
  | .str z => match x with
    | .str t => some (match t.cps.toList with
      | [c] => decide (c ∈ z.cps.toList)
      | _ => !(Builtin.Str.occurrences z t 0 z.length 1).isEmpty)
    | _ => none
  | .list ys => if fitD dpt x = true ∧ fitAll dpt ys = true then some (ys.any fun y => PyData.eqv y x) else none
  | .tuple ys => if fitD dpt x = true ∧ fitAll dpt ys = true then some (ys.any fun y => PyData.eqv y x) else none
  | .dict es => if insB es = true then none else match keyOf x with
    | some k => some (lookE es k).isSome
    | none => none
  | _ => none
def inD (x y : D) : Out D := match inB x y with
  | some b => .ok (.bool b)
  | none => .stuck
def notInD (x y : D) : Out D := match inB x y with
  | some b => .ok (.bool (!b))
  | none => .stuck
section
variable {X : Cx}
def sg (n : Bool) (b : Bool) : Bool := if n = true then !b else b
def rInS (n : Bool) : R2 := fun x y H Q => ∃ t z b, x = .str t ∧ y = .str z ∧ inB (.str t) (.str z) = some b ∧ Q (.bl (sg n b)) H
def rInL (K : PySem.W.Frag) (n : Bool) : R2 := fun x y H Q => ∃ d ys, Dp K H x d ∧ (Dp K H y (.list ys) ∨ Dp K H y (.tuple ys)) ∧ (fitD dpt d = true ∧ fitAll dpt ys = true) ∧ Q (.bl (sg n (ys.any fun y => PyData.eqv y d))) H
def rInK (n : Bool) : R2 := fun x y H Q => ∃ (a : Addr) (kvs : List (Key × V)) (k : Key), y = .ref a ∧ Rd H a (.dK kvs) ∧ x = kV k ∧ Q (.bl (sg n (valV kvs k).isSome)) H
theorem str_one {t : Str} {c : Nat} (e : t.cps.toList = [c]) : t = ⟨#[c]⟩ := by
  cases t with
  | mk a =>
    have : a = #[c] := Array.toList_inj.mp (by simpa using e)
    rw [this]
theorem op_inS : OpR X (compareOp .In) (rInS false) := by
  intro pins s σ H x y v u Q I rx ry h
  obtain ⟨t, z, b, rfl, rfl, e, q⟩ := h
  simp only [inB, Option.some.injEq] at e
  split at e
  · rename_i c hc
    obtain rfl := str_one hc
    exact op_in_sign pins s σ H _ _ v u Q I rx ry ⟨c, z, rfl, rfl, by rw [e]; exact q⟩
  · exact op_in_str pins s σ H _ _ v u Q I rx ry ⟨t, z, rfl, rfl, by rw [e]; exact q⟩
theorem op_notInS : OpR X (compareOp .NotIn) (rInS true) := by
  intro pins s σ H x y v u Q I rx ry h
  obtain ⟨t, z, b, rfl, rfl, e, q⟩ := h
  simp only [inB, Option.some.injEq] at e
  split at e
  · rename_i c hc
    obtain rfl := str_one hc
    exact op_notIn_sign pins s σ H _ _ v u Q I rx ry ⟨c, z, rfl, rfl, by rw [e]; exact q⟩
  · exact op_notIn_str pins s σ H _ _ v u Q I rx ry ⟨t, z, rfl, rfl, by rw [e]; exact q⟩
theorem op_inL (hu : X.A.units + 64 < cLine) : OpR X (compareOp .In) (rInL X.K false) := by
  intro pins s σ H x y v u Q I rx ry h
  obtain ⟨d, ys, hd, hy, ⟨f1, f2⟩, q⟩ := h
  obtain ⟨as, r1⟩ := Dp.reads I d x v hd rx
  obtain ⟨p1, p2⟩ := fitD_ok d _ f1
  obtain ⟨p3, p4⟩ := fitAll_ok ys _ f2
  have fin : EP X pins σ Q (.bool (ys.any fun y => PyData.eqv y d)) s := ⟨.bl _, H, I, rfl, q⟩
  have hz : X.A.units + 1 + min (PyData.depthAll ys) d.depth < cLine := by have : dpt = 60 := rfl; omega
  rcases hy with hy | hy
  · obtain ⟨bs, r2⟩ := Dp.reads I _ y u hy ry
    exact PySem.SeqAt.in_list_data r2 r1 p3 p1 hz fin
  · obtain ⟨bs, r2⟩ := Dp.reads I _ y u hy ry
    exact PySem.SeqAt.in_tuple_data r2 r1 p3 p1 hz fin
theorem op_notInL (hu : X.A.units + 64 < cLine) : OpR X (compareOp .NotIn) (rInL X.K true) := by
  intro pins s σ H x y v u Q I rx ry h
  obtain ⟨d, ys, hd, hy, ⟨f1, f2⟩, q⟩ := h
  obtain ⟨as, r1⟩ := Dp.reads I d x v hd rx
  obtain ⟨p1, p2⟩ := fitD_ok d _ f1
  obtain ⟨p3, p4⟩ := fitAll_ok ys _ f2
  have fin : EP X pins σ Q (.bool (!ys.any fun y => PyData.eqv y d)) s := ⟨.bl _, H, I, rfl, q⟩
  have hz : X.A.units + 1 + min (PyData.depthAll ys) d.depth < cLine := by have : dpt = 60 := rfl; omega
  rcases hy with hy | hy
  · obtain ⟨bs, r2⟩ := Dp.reads I _ y u hy ry
    exact PySem.SeqAt.notIn_list_data r2 r1 p3 p1 hz fin
  · obtain ⟨bs, r2⟩ := Dp.reads I _ y u hy ry
    exact PySem.SeqAt.notIn_tuple_data r2 r1 p3 p1 hz fin
theorem op_inK (hu : X.A.units + 64 < cLine) : OpR X (compareOp .In) (rInK false) := by
  intro pins s σ H x y v u Q I rx ry h
  obtain ⟨a, kvs, k, rfl, hd, rfl, q⟩ := h
  cases (show u = Value.ref a from ry)
  exact d_in (A := X.A) (by omega) I (.inl ⟨kvs, k, hd, rfl, rfl⟩) rx fun s3 I3 => ⟨.bl _, H, I3, rfl, q⟩
theorem op_notInK (hu : X.A.units + 64 < cLine) : OpR X (compareOp .NotIn) (rInK true) := by
  intro pins s σ H x y v u Q I rx ry h
  obtain ⟨a, kvs, k, rfl, hd, rfl, q⟩ := h
  cases (show u = Value.ref a from ry)
  exact d_notIn (A := X.A) (by omega) I (.inl ⟨kvs, k, hd, rfl, rfl⟩) rx fun s3 I3 => ⟨.bl _, H, I3, rfl, q⟩
def rIn3 (K : PySem.W.Frag) (n : Bool) : R2 := fun x y H Q => rInS n x y H Q ∨ rInL K n x y H Q ∨ rInK n x y H Q
theorem op_in3 (hu : X.A.units + 64 < cLine) : OpR X (compareOp .In) (rIn3 X.K false) := op_inS.or ((op_inL hu).or (op_inK hu))
theorem op_notIn3 (hu : X.A.units + 64 < cLine) : OpR X (compareOp .NotIn) (rIn3 X.K true) := op_notInS.or ((op_notInL hu).or (op_notInK hu))
end
section
variable {X : Cx} {W : WX}
theorem row_inB (n : Bool) {f : D → D → Out D} (hf : ∀ x y, f x y = match inB x y with | some b => .ok (.bool (sg n b)) | none => .stuck) : Row2 X W .v (rIn3 X.K n) f := fun σ U H v u x y Q hn r1 r2 q => by
  rw [hf x y] at q
  cases e : inB x y with
  | none =>
    rw [e] at q
    exact q.elim
  | some b =>
    rw [e] at q
    have q := q.val (.bl (sg n b))
    cases y with
    | str z =>
      obtain rfl := r2.str
      cases x with
      | str t =>
        obtain rfl := r1.str
        exact .inl ⟨t, z, b, rfl, rfl, e, q⟩
      | _ => cases e
    | list ys =>
      simp only [inB] at e
      split at e
      · rename_i h
        cases e
        exact .inr (.inl ⟨x, ys, r1.dp (fitD_ok x _ h.1).1, .inl (r2.dp (by simpa [PyData.plain] using (fitAll_ok ys _ h.2).1)), h, q⟩)
      · cases e
    | tuple ys =>
      simp only [inB] at e
      split at e
      · rename_i h
        cases e
        exact .inr (.inl ⟨x, ys, r1.dp (fitD_ok x _ h.1).1, .inr (r2.dp (by simpa [PyData.plain] using (fitAll_ok ys _ h.2).1)), h, q⟩)
      · cases e
    | dict es =>
      simp only [inB] at e
      split at e
      · cases e
      rename_i hins
      split at e
      · rename_i k hk
        cases e
        obtain ⟨a, kvs, rfl, hd, rk⟩ := r2.dct (by simpa using hins)
        obtain ⟨rfl, rfl⟩ := keyOf_brep hk r1
        refine .inr (.inr ⟨a, kvs, k, rfl, hd, rfl, ?_⟩)
        have ee : (valV kvs k).isSome = (lookE es k).isSome := by
          rcases rk.look k with ⟨h1, h2⟩ | ⟨w, d, h1, h2, _⟩
          · rw [h1, h2] <;> rfl
          · rw [h1, h2] <;> rfl
        rw [ee]
        exact q
      · cases e
    | _ => cases e
theorem row_in : Row2 X W .v (rIn3 X.K false) inD := row_inB false fun _ _ => rfl
theorem row_notIn : Row2 X W .v (rIn3 X.K true) notInD := row_inB true fun _ _ => rfl
end
/-! ## subscripts -/
def idxD (x i : D) : Out D := match x, i with
  | .list xs, .int k => match atI xs k with
    | some d => .ok d
    | none => .stuck
  | .tuple xs, .int k => match atI xs k with
    | some d => .ok d
    | none => .stuck
  | .str z, .int k => if z.length ≤ sizeLine then match atI z.cps.toList k with
    | some c => .ok (.str ⟨#[c]⟩)
    | none => .stuck
    else .stuck
  | .dict es, k => match keyOf k with
    | some k => match lookE es k with
      | some d => .ok d
      | none => .stuck
    | none => .stuck
  | _, _ => .stuck
def rIxK : R2 := fun x y H Q => ∃ (a : Addr) (kvs : List (Key × V)) (k : Key) (v : V), x = .ref a ∧ Rd H a (.dK kvs) ∧ y = kV k ∧ valV kvs k = some v ∧ Q v H
section
variable {X : Cx}
theorem ix_dK (hu : X.A.units + 64 < cLine) : IxR X rIxK := by
  intro value slice pins s σ H x y v u Q I rx ry h hs
  obtain ⟨a, kvs, k, z, rfl, hd, rfl, hl, q⟩ := h
  cases (show v = Value.ref a from rx)
  have g : DGet H a (kV k) (some z) := .inl ⟨kvs, k, hd, rfl, hl.symm⟩
  exact tail_any (dict_typeIs I g) PySem.F.slot_dict_getitem.lookup (d_getItem (A := X.A) (by omega) I g ry fun w' s3 I3 rw' => ⟨z, H, I3, rw', q⟩) hs
def rIx4 (K : PySem.W.Frag) : R2 := fun x y H Q => rIx K x y H Q ∨ rIxK x y H Q
theorem ix_4 (hu : X.A.units + 64 < cLine) : IxR X (rIx4 X.K) := IxR.or ix_seq (ix_dK hu)
theorem atI_reps {K : PySem.W.Frag} {U : Addr → Prop} {H : Hp} {vs : List V} {ds : List D} (r : Reps K U H vs ds) {k : Int} {d : D} (h : atI ds k = some d) : ∃ v, atI vs k = some v ∧ Rep K U H v d := by
  unfold atI at h ⊢
  rw [r.length]
  cases e : ixN ds.length k with
  | none => rw [e] at h; cases h
  | some j =>
    rw [e] at h
    exact r.get h
end
theorem row_idx {X : Cx} {W : WX} : Row2 X W .v (rIx4 X.K) idxD := fun σ U H v u x y Q hf r1 r2 q => by
  cases x with
  | list xs => cases y with
    | int k =>
      simp only [idxD] at q
      obtain ⟨a, vs, rfl, h1, t1⟩ := r1.lst
      obtain rfl := r2.int
      split at q
      · rename_i d hd
        obtain ⟨w, hw, rw'⟩ := atI_reps t1 hd
        exact .inl (.inl ⟨a, vs, k, w, rfl, rfl, .inl h1, hw, q.val rw'⟩)
      · exact q.elim
    | _ => exact q.elim
  | tuple xs => cases y with
    | int k =>
      simp only [idxD] at q
      obtain ⟨a, vs, rfl, h1, t1⟩ := r1.tup
      obtain rfl := r2.int
      split at q
      · rename_i d hd
        obtain ⟨w, hw, rw'⟩ := atI_reps t1 hd
        exact .inl (.inr (.inl ⟨a, vs, k, w, rfl, rfl, h1, hw, q.val rw'⟩))
      · exact q.elim
    | _ => exact q.elim
  | str z => cases y with
    | int k =>
      simp only [idxD] at q
      obtain rfl := r1.str
      obtain rfl := r2.int
      split at q
      · rename_i hz
        split at q
        · rename_i c hc
          exact .inl (.inr (.inr ⟨z, k, c, rfl, rfl, hz, hc, q.val (.str _)⟩))
        · exact q.elim
      · exact q.elim
    | _ => exact q.elim
  | dict es =>
    simp only [idxD] at q
    split at q
    · rename_i k hk
      split at q
      · rename_i d hd
        obtain ⟨a, kvs, rfl, h1, rk⟩ := r1.dctL (by rw [hd]; rfl)
        obtain ⟨rfl, rfl⟩ := keyOf_brep hk r2
        rcases rk.look k with ⟨z1, z2⟩ | ⟨w, d', z1, z2, z3⟩
        · rw [z1] at hd; cases hd
        · rw [z1] at hd
          cases hd
          exact .inr ⟨a, kvs, k, w, rfl, h1, rfl, z2, q.val z3⟩
      · exact q.elim
    · exact q.elim
  | _ => exact q.elim
theorem de_idx {X : Cx} {H0 : Ent} {W : WX} {a b : Expr} {fa fb : Rho → Out D} {pos : Pos} (hu : X.A.units + 64 < cLine) (hs : PlainIx b) (ha : DE X H0 W .b a fa) (hb : DE X H0 W .b b fb) :
    DE X H0 W .v (.Subscript a b pos) fun ρ => (fa ρ).bind fun x => (fb ρ).bind fun y => idxD x y :=
  PE.imp (pe_ix (ix_4 hu) ha hb hs) fun _ _ _ h => tD.two row_idx h
/-! ## slices -/
def cutD {α : Type} (xs : List α) (lo hi : Option Int) : List α := (xs.drop (HT.sIx xs.length 0 lo)).take (HT.sIx xs.length xs.length hi - HT.sIx xs.length 0 lo)
def sliceD (x : D) (lo hi : Option Int) : Out D := match x with
  | .list xs => .ok (.list (cutD xs lo hi))
  | .tuple xs => .ok (.tuple (cutD xs lo hi))
  | .str z => if z.length ≤ sizeLine then .ok (.str (cutS z lo hi)) else .stuck
  | _ => .stuck
end Mp
namespace Mp
open PySem PySem.Spec PyProof.Rows L2
section
variable {X : Cx} {H0 : Ent} {W : WX}
/-- what is asked behind something that is no value -/
def PostA {α : Type} (X : Cx) (W : WX) (σ : L2.St) (H : Hp) (Q : α → Hp → Prop) : Out α → Prop
  | .ok o => ∀ H', Same H H' → Q o H'
  | .exc c fs => ∀ cls dd H', Same H H' → ExR X.mg X.K H' c fs cls dd → W cls dd σ H'
  | .stuck => False
/-! ## slices' parts -/
def tDO (X : Cx) (H0 : Ent) (W : WX) (f : Rho → Out (Option Int)) : TO := fun σ H Q => ∃ ρ U, Pt X.K H0 σ H ρ U ∧ PostA X W σ H Q (f ρ)
def partD : D → Out (Option Int)
  | .int i => .ok (some i)
  | _ => .stuck
abbrev DO (X : Cx) (H0 : Ent) (W : WX) (e : Option Expr) (f : Rho → Out (Option Int)) : Prop := PO X e (tDO X H0 W f)
theorem PO.imp {e : Option Expr} {t t' : TO} (h : PO X e t) (i : ∀ σ H Q, t' σ H Q → t σ H Q) : PO X e t' := ⟨fun pins s σ H Q I q => h.run pins s σ H Q I (i σ H Q q)⟩
theorem do_none : DO X H0 W none fun _ => .ok none := PO.imp po_none fun _ H _ ⟨_, _, _, q⟩ => q H (Same.refl H)
theorem do_some {e : Expr} {f : Rho → Out D} (h : DE X H0 W .b e f) : DO X H0 W (some e) fun ρ => (f ρ).bind partD := PO.imp (po_some h) fun σ H Q ⟨ρ, U, P, q⟩ => by
  refine ⟨ρ, U, P, ?_⟩
  replace q : PostA X W σ H Q ((f ρ).bind partD) := q
  revert q
  cases f ρ with
  | exc c fs => exact fun q => q
  | stuck => exact fun q => q
  | ok d =>
    intro q v H1 s r
    cases d with
    | int i =>
      obtain rfl := r.int
      exact ⟨i, rfl, q H1 s⟩
    | _ => exact q.elim
theorem tDO.bind {m : Md} {fl : Rho → Out (Option Int)} {k : Option Int → Rho → Out D} {σ : L2.St} {H : Hp} {ρ : Rho} {U : Addr → Prop} {Q : VK} (P : Pt X.K H0 σ H ρ U) (h : PostM X W m σ H U Q ((fl ρ).bind fun o => k o ρ)) :
    tDO X H0 W fl σ H fun o H1 => Same H H1 ∧ Pt X.K H0 σ H1 ρ U ∧ PostM X W m σ H1 U Q (k o ρ) := by
  refine ⟨ρ, U, P, ?_⟩
  revert h
  cases fl ρ with
  | exc c fs => exact fun q => q
  | stuck => exact fun q => q
  | ok o => exact fun q H1 s => ⟨s, P.same s, PostM.later s q⟩
def rSl3 (K : PySem.W.Frag) : V → Option Int → Option Int → Hp → VK → Prop := fun x lo hi H Q => rSlN K x lo hi H Q ∨ rSlL K x lo hi H Q ∨ (∃ z, x = .str z ∧ z.length ≤ sizeLine ∧ Q (.str (cutS z lo hi)) H)
theorem Reps.cut {K : PySem.W.Frag} {U : Addr → Prop} {H : Hp} {vs : List V} {ds : List D} (r : Reps K U H vs ds) (lo hi : Option Int) : Reps K U H (cutV vs lo hi) (cutD ds lo hi) := by
  unfold cutV cutD
  rw [r.length]
  exact (r.drop _).take _
theorem whole_cut {α : Type} {ds : List α} {lo hi : Option Int} (h : HT.sIx ds.length 0 lo = 0 ∧ HT.sIx ds.length ds.length hi = ds.length) : cutD ds lo hi = ds := by
  unfold cutD
  rw [h.1, h.2]
  simp
theorem de_slice {a : Expr} {lo hi : Option Expr} {p2 pos : Pos} {fa : Rho → Out D} {fl fh : Rho → Out (Option Int)} (hsl : SlR X (rSl3 X.K)) (ha : DE X H0 W .b a fa) (hl : DO X H0 W lo fl) (hh : DO X H0 W hi fh) :
    DE X H0 W .v (.Subscript a (.Slice lo hi none p2) pos) fun ρ => (fa ρ).bind fun x => (fl ρ).bind fun l => (fh ρ).bind fun h => sliceD x l h :=
  PE.imp (pe_slice hsl ha hl hh) fun σ H Q h => (tD.bind (ma := .b) (k := fun x ρ => (fl ρ).bind fun l => (fh ρ).bind fun h => sliceD x l h) h).mono fun v H1 ⟨ρ, U, d, s1, P1, r1, q1⟩ => by
    have h2 := tDO.bind (k := fun l ρ => (fh ρ).bind fun h => sliceD d l h) P1 q1
    obtain ⟨ρ', U', P', q'⟩ := h2
    refine ⟨ρ', U', P', ?_⟩
    revert q'
    cases fl ρ' with
    | exc c fs => exact fun q => q
    | stuck => exact fun q => q
    | ok l =>
      intro q' H2 s2
      obtain ⟨s2', P2, q2⟩ := q' H2 s2
      have h3 := tDO.bind (k := fun h _ => sliceD d l h) P2 q2
      obtain ⟨ρ3, U3, P3, q3⟩ := h3
      refine ⟨ρ3, U3, P3, ?_⟩
      revert q3
      cases fh ρ3 with
      | exc c fs => exact fun q => q
      | stuck => exact fun q => q
      | ok u =>
        intro q3 H3 s3
        obtain ⟨s3', P4, q4⟩ := q3 H3 s3
        have r4 : BRep X.K U H3 v d := by
          have s13 := s2'.trans s3'
          rcases r1 with r1 | ⟨a, e, hu, o⟩
          · exact .inl (r1.mono (Kp.same s13))
          · exact .inr ⟨a, e, hu, o.mono (Kp.same s13) fun _ z => s13 _ _ z⟩
        cases d with
        | list xs =>
          obtain ⟨a, vs, rfl, h1, t1⟩ := r4.lst
          exact .inr (.inl ⟨a, vs, rfl, .inl h1, q4.lstV (fun p hp => P4.fresh hp) (t1.cut l u)⟩)
        | tuple xs =>
          obtain ⟨a, vs, rfl, h1, t1⟩ := r4.tup
          refine .inl ⟨a, vs, ⟨rfl, h1⟩, fun hw => ?_, fun _ => q4.tup (fun p hp => P4.fresh hp) (t1.cut l u)⟩
          rw [t1.length] at hw
          have e := whole_cut hw
          have q5 : PostM X W .v σ H3 U Q (.ok (.tuple (cutD xs l u))) := q4
          rw [e] at q5
          rcases r4 with r4 | ⟨_, _, _, z⟩
          · exact q5.val r4
          · exact z.elim
        | str z =>
          obtain rfl := r4.str
          have q5 : PostM X W .v σ H3 U Q (if z.length ≤ sizeLine then .ok (.str (cutS z l u)) else .stuck) := q4
          split at q5
          · rename_i hz
            exact .inr (.inr ⟨z, rfl, hz, q5.val (.str _)⟩)
          · exact q5.elim
        | _ => exact q4.elim
/-! ## argument lists -/
abbrev BReps (K : PySem.W.Frag) (U : Addr → Prop) (H : Hp) : List V → List D → Prop := Paired fun v d => BRep K U H v d
theorem BRep.same {K : PySem.W.Frag} {U : Addr → Prop} {H H' : Hp} (s : Same H H') {v : V} {d : D} (r : BRep K U H v d) : BRep K U H' v d := by
  rcases r with r | ⟨a, e, hu, o⟩
  · exact .inl (r.mono (Kp.same s))
  · exact .inr ⟨a, e, hu, o.mono (Kp.same s) fun _ z => s _ _ z⟩
theorem BReps.same {K : PySem.W.Frag} {U : Addr → Prop} {H H' : Hp} (s : Same H H') : ∀ {v : List V} {d : List D}, BReps K U H v d → BReps K U H' v d
  | _, _, .nil => .nil
  | _, _, .cons r t => .cons (r.same s) (BReps.same s t)
def RepL (K : PySem.W.Frag) (U : Addr → Prop) (H : Hp) (vs : List V) (ds : List D) : Bool → Prop
  | true => BReps K U H vs ds
  | false => Reps K U H vs ds
def PostL (X : Cx) (W : WX) (b : Bool) (σ : L2.St) (H : Hp) (U : Addr → Prop) (Q : List V → Hp → Prop) : Out (List D) → Prop
  | .ok ds => ∀ vs H', Same H H' → RepL X.K U H' vs ds b → Q vs H'
  | .exc c fs => ∀ cls dd H', Same H H' → ExR X.mg X.K H' c fs cls dd → W cls dd σ H'
  | .stuck => False
def tDA (X : Cx) (H0 : Ent) (W : WX) (b : Bool) (f : Rho → Out (List D)) : TA := fun σ H Q => ∃ ρ U, Pt X.K H0 σ H ρ U ∧ PostL X W b σ H U Q (f ρ)
abbrev DA (X : Cx) (H0 : Ent) (W : WX) (b : Bool) (es : List Expr) (f : Rho → Out (List D)) : Prop := PA X es (tDA X H0 W b f)
theorem RepL.nil {K : PySem.W.Frag} {U : Addr → Prop} {H : Hp} : ∀ {b : Bool}, RepL K U H [] [] b
  | true => Paired.nil
  | false => Reps.nil
theorem da_nil {b : Bool} : DA X H0 W b [] fun _ => .ok [] := PA.imp pa_nil fun _ H _ ⟨_, _, _, q⟩ => q [] H (Same.refl H) RepL.nil
def bMd : Bool → Md
  | true => .b
  | false => .v
theorem da_cons {b : Bool} {e : Expr} {es : List Expr} {f : Rho → Out D} {g : Rho → Out (List D)} (h : DE X H0 W (bMd b) e f) (t : DA X H0 W b es g) (hs : starEach (e :: es) X.env = (false, eval e X.env) :: starEach es X.env) :
    DA X H0 W b (e :: es) fun ρ => (f ρ).bind fun x => (g ρ).bind fun xs => .ok (x :: xs) :=
  PA.imp (pa_cons h t hs) fun σ H Q ⟨ρ, U, P, q⟩ => by
    refine ⟨ρ, U, P, ?_⟩
    replace q : PostL X W b σ H U Q ((f ρ).bind fun x => (g ρ).bind fun xs => .ok (x :: xs)) := q
    revert q
    cases f ρ with
    | exc c fs => exact fun q => q
    | stuck => exact fun q => q
    | ok d =>
      intro q v H1 s1 r1
      refine ⟨ρ, U, P.same s1, ?_⟩
      revert q
      cases g ρ with
      | exc c fs => exact fun q cls dd H' s' x => q cls dd H' (s1.trans s') x
      | stuck => exact fun q => q
      | ok ds =>
        intro q vs H2 s2 r2
        refine q (v :: vs) H2 (s1.trans s2) ?_
        cases b with
        | true => exact .cons (BRep.same s2 r1) r2
        | false => exact .cons (Rep.mono (Kp.same s2) r1) r2
/-! ## displays -/
def tupD (xs : List D) : Out D := if xs.length ≤ sizeLine then .ok (.tuple xs) else .stuck
def lstD (xs : List D) : Out D := if xs.length ≤ sizeLine then .ok (.list xs) else .stuck
theorem de_tup {es : List Expr} {x1 : Nat} {pos : Pos} {f : Rho → Out (List D)} (h : DA X H0 W false es f) : DE X H0 W .v (.Tuple es x1 pos) fun ρ => (f ρ).bind tupD :=
  PE.imp (pe_tupN h) fun σ H Q ⟨ρ, U, P, q⟩ => by
    refine ⟨ρ, U, P, ?_⟩
    replace q : PostM X W .v σ H U Q ((f ρ).bind tupD) := q
    revert q
    cases f ρ with
    | exc c fs => exact fun q => q
    | stuck => exact fun q => q
    | ok ds =>
      intro q vs H1 s1 r1
      replace q : PostM X W .v σ H U Q (if ds.length ≤ sizeLine then .ok (.tuple ds) else .stuck) := q
      split at q
      · rename_i hz
        exact ⟨by rw [Reps.length r1]; exact hz, (PostM.later s1 q).tup (fun p hp => (P.same s1).fresh hp) r1⟩
      · exact q.elim
theorem de_lst {es : List Expr} {pos : Pos} {f : Rho → Out (List D)} (h : DA X H0 W false es f) : DE X H0 W .f (.List es pos) fun ρ => (f ρ).bind lstD :=
  PE.imp (pe_lst h) fun σ H Q ⟨ρ, U, P, q⟩ => by
    refine ⟨ρ, U, P, ?_⟩
    replace q : PostM X W .f σ H U Q ((f ρ).bind lstD) := q
    revert q
    cases f ρ with
    | exc c fs => exact fun q => q
    | stuck => exact fun q => q
    | ok ds =>
      intro q vs H1 s1 r1
      replace q : PostM X W .f σ H U Q (if ds.length ≤ sizeLine then .ok (.list ds) else .stuck) := q
      split at q
      · rename_i hz
        exact ⟨by rw [Reps.length r1]; exact hz, (PostM.later s1 q).lst (fun p hp => (P.same s1).fresh hp) r1⟩
      · exact q.elim
theorem de_dct0 {pos : Pos} : DE X H0 W .f (.Dict [] [] pos) fun _ => .ok (.dict []) :=
  PE.imp pe_dnewK fun σ H Q ⟨ρ, U, P, q⟩ => fun p hp => q _ _ (same_new hp) ⟨p, rfl, hp, .inl ⟨[], upd_same, .nil⟩⟩
end
end Mp
namespace Mp
open PySem PySem.Spec PyProof.Rows L2
/-! ## truth -/
def truthD : D → Out Bool
  | .none => .ok false
  | .bool b => .ok b
  | .int i => .ok (i != 0)
  | .str x => if x.length ≤ sizeLine then .ok ((x.length : Int) != 0) else .stuck
  | .list xs => .ok (!xs.isEmpty)
  | .tuple xs => .ok (!xs.isEmpty)
  | .dict es => if insB es = true then .stuck else .ok (!es.isEmpty)
def boolD : D → Out Bool
  | .bool b => .ok b
  | _ => .stuck
section
variable {X : Cx} {H0 : Ent} {W : WX}
theorem tru_brep {pins : List (Addr × Obj)} {s : Shared} {σ : L2.St} {H : Hp} {U : Addr → Prop} {v : V} {u : Value} {d : D} {k : Bool} {Q : Bool → Hp → Prop} (I : Inv X pins σ H s) (rv : RelV v u) (r : BRep X.K U H v d) (e : truthD d = .ok k) (q : Q k H) :
    wpAny (model X.prog X.w) X.A (truthy u) (TP X pins σ Q) X.xe s := by
  cases d with
  | none =>
    obtain rfl := r.non
    cases e
    exact tru_ok pins s σ H _ u Q I rv ⟨_, rfl, q⟩
  | bool b =>
    obtain rfl := r.bl
    cases e
    exact tru_ok pins s σ H _ u Q I rv ⟨_, rfl, q⟩
  | int i =>
    obtain rfl := r.int
    cases e
    exact tru_ok pins s σ H _ u Q I rv ⟨_, rfl, q⟩
  | str x =>
    obtain rfl := r.str
    simp only [truthD] at e
    split at e
    · rename_i hz
      cases e
      exact tru_ok pins s σ H _ u Q I rv ⟨_, ⟨hz, rfl⟩, q⟩
    · cases e
  | list xs =>
    obtain ⟨a, vs, rfl, h1, t1⟩ := r.lst
    cases e
    refine tru_ok pins s σ H _ u Q I rv ⟨_, .inl ⟨vs, .inl h1, rfl⟩, ?_⟩
    have ee : vs.isEmpty = xs.isEmpty := by cases t1 <;> rfl
    rw [ee]
    exact q
  | tuple xs =>
    obtain ⟨a, vs, rfl, h1, t1⟩ := r.tup
    cases e
    refine tru_ok pins s σ H _ u Q I rv ⟨_, .inr (.inl ⟨vs, h1, rfl⟩), ?_⟩
    have ee : vs.isEmpty = xs.isEmpty := by cases t1 <;> rfl
    rw [ee]
    exact q
  | dict es =>
    replace e : (if insB es = true then Out.stuck else .ok (!es.isEmpty)) = .ok k := e
    split at e
    · cases e
    rename_i hins
    obtain ⟨a, kvs, rfl, h1, t1⟩ := r.dct (by simpa using hins)
    cases e
    cases (show u = Value.ref a from rv)
    refine d_truth I h1 fun s' I' => ?_
    have ee : kvs.isEmpty = es.isEmpty := by cases t1 <;> rfl
    rw [ee]
    exact ⟨H, I', q⟩
def tDT (X : Cx) (H0 : Ent) (W : WX) (f : Rho → Out Bool) : TT := fun σ H Q => ∃ ρ U, Pt X.K H0 σ H ρ U ∧ PostA X W σ H Q (f ρ)
abbrev DT (X : Cx) (H0 : Ent) (W : WX) (e : Expr) (f : Rho → Out Bool) : Prop := PT X e (tDT X H0 W f)
abbrev DW (X : Cx) (H0 : Ent) (W : WX) (e : Expr) (f : Rho → Out Bool) : Prop := PW X e (tDT X H0 W f)
theorem PW.imp {e : Expr} {t t' : TT} (h : PW X e t) (i : ∀ σ H Q, t' σ H Q → t σ H Q) : PW X e t' := ⟨fun wh pins s σ H Q I q => h.run wh pins s σ H Q I (i σ H Q q)⟩
theorem PostA.later {α : Type} {σ : L2.St} {H H1 : Hp} {Q : α → Hp → Prop} (s : Same H H1) : ∀ {r : Out α}, PostA X W σ H Q r → PostA X W σ H1 Q r
  | .ok d, h => fun H' s' => h H' (s.trans s')
  | .exc c fs, h => fun cls dd H' s' r => h cls dd H' (s.trans s') r
  | .stuck, h => h
/-- how an expression's test is its value's truth -/
def Plain1 (e : Expr) (env : Env) : Prop := ∀ whole, isTrue e env whole = (do let v ← whole; standAt e.pos; holding [v] (truthy v))
theorem dt_truth {e : Expr} {f : Rho → Out D} (h : DE X H0 W .b e f) (he : Plain1 e X.env) : DT X H0 W e fun ρ => (f ρ).bind truthD := by
  refine ⟨fun pins s σ H Q I ⟨ρ, U, P, q⟩ => ?_⟩
  replace q : PostA X W σ H Q ((f ρ).bind truthD) := q
  refine isTrue_plain (thn (h.run pins s σ H (fun v H1 => Same H H1 ∧ ∃ d U, f ρ = .ok d ∧ BRep X.K U H1 v d) I ⟨ρ, U, P, ?_⟩) fun u s1 ⟨v, H1, I1, r1, s01, d, U1, ed, rd⟩ => ?_) (he _)
  · cases ef : f ρ with
    | exc c fs =>
      rw [ef] at q
      exact q
    | stuck =>
      rw [ef] at q
      exact q
    | ok d => exact fun v H1 s1 r => ⟨s1, d, U, rfl, r⟩
  · rw [ed] at q
    replace q : PostA X W σ H Q (truthD d) := q
    cases ek : truthD d with
    | exc c fs =>
      cases d <;> simp [truthD] at ek <;> (split at ek <;> cases ek)
    | stuck =>
      rw [ek] at q
      exact q.elim
    | ok k =>
      rw [ek] at q
      exact tru_brep I1 r1 rd ek (q H1 s01)
/-- an expression that gives a bool, whatever its test's form is -/
theorem dt_of {e : Expr} {t : TE} {f : Rho → Out D} (h : PT X e (tTest t)) (i : ∀ σ H Q, tD X H0 W .v f σ H Q → t σ H Q) : DT X H0 W e fun ρ => (f ρ).bind boolD :=
  PT.imp h fun σ H Q ⟨ρ, U, P, q⟩ => i σ H _ ⟨ρ, U, P, by
    replace q : PostA X W σ H Q ((f ρ).bind boolD) := q
    revert q
    cases f ρ with
    | exc c fs => exact fun q => q
    | stuck => exact fun q => q
    | ok d =>
      intro q v H1 s1 r1
      cases d with
      | bool b =>
        cases r1
        exact ⟨b, rfl, q H1 s1⟩
      | _ => exact q.elim⟩
theorem dt_cmp {op : CmpOp} {r : R2} {g : D → D → Out D} {a b : Expr} {fa fb : Rho → Out D} {pos : Pos} (ho : OpR X (compareOp op) r) (hm : behindInMarks op b = false) (hr : Row2 X W .v r g) (ha : DE X H0 W .b a fa) (hb : DE X H0 W .b b fb) :
    DT X H0 W (.Compare a [op] [b] pos) fun ρ => ((fa ρ).bind fun x => (fb ρ).bind fun y => g x y).bind boolD :=
  dt_of (pt_cmpR ho ha hb hm) fun _ _ _ h => tD.two hr h
/-! ## chains of two comparisons -/
def chainD (x y : D) (g g' : D → D → Out D) (z : Out D) : Out D := (g x y).bind fun r => (boolD r).bind fun k => if k = true then z.bind fun z => g' y z else .ok (.bool false)
theorem tD.chain {r r' : R2} {g g' : D → D → Out D} {fa fb fc : Rho → Out D} {σ : L2.St} {H : Hp} {Q : VK} (hr : Row2 X W .v r g) (hr' : Row2 X W .v r' g')
    (h : tD X H0 W .v (fun ρ => (fa ρ).bind fun x => (fb ρ).bind fun y => chainD x y g g' (fc ρ)) σ H Q) : tChain r r' (tD X H0 W .b fa) (tD X H0 W .b fb) (tD X H0 W .b fc) σ H Q := by
  obtain ⟨ρ, U, P, q⟩ := h
  replace q : PostM X W .v σ H U Q ((fa ρ).bind fun x => (fb ρ).bind fun y => chainD x y g g' (fc ρ)) := q
  refine ⟨ρ, U, P, ?_⟩
  revert q
  cases fa ρ with
  | exc c fs => exact fun q => q
  | stuck => exact fun q => q
  | ok x =>
    intro q v H1 s1 r1
    refine ⟨ρ, U, P.same s1, ?_⟩
    replace q : PostM X W .v σ H U Q ((fb ρ).bind fun y => chainD x y g g' (fc ρ)) := q
    revert q
    cases fb ρ with
    | exc c fs => exact fun q cls dd H' s' x => q cls dd H' (s1.trans s') x
    | stuck => exact fun q => q
    | ok y =>
      intro q u H2 s2 r2
      replace q : PostM X W .v σ H U Q (chainD x y g g' (fc ρ)) := q
      have P2 := (P.same s1).same s2
      refine hr σ U H2 v u x y _ (fun p hp => P2.fresh hp) (r1.same s2) r2 ?_
      unfold chainD at q
      revert q
      cases g x y with
      | exc c fs => exact fun q cls dd H' s' x => q cls dd H' ((s1.trans s2).trans s') x
      | stuck => exact fun q => q
      | ok d =>
        intro q w H3 s3 r3
        replace q : PostM X W .v σ H U Q ((boolD d).bind fun k => if k = true then (fc ρ).bind fun z => g' y z else .ok (.bool false)) := q
        have s13 := (s1.trans s2).trans s3
        cases d with
        | bool k =>
          cases r3
          refine ⟨k, rfl, ?_⟩
          cases k with
          | false => exact q (.bl false) H3 s13 (.bl _)
          | true =>
            refine ⟨ρ, U, P2.same s3, ?_⟩
            replace q : PostM X W .v σ H U Q ((fc ρ).bind fun z => g' y z) := q
            revert q
            cases fc ρ with
            | exc c fs => exact fun q cls dd H' s' x => q cls dd H' (s13.trans s') x
            | stuck => exact fun q => q
            | ok z => exact fun q w' H4 s4 r4 => hr' σ U H4 u w' y z Q (fun p hp => ((P2.same s3).same s4).fresh hp) ((r2.same s3).same s4) r4 (PostM.later (s13.trans s4) q)
        | _ => exact q.elim
theorem de_chain {op op' : CmpOp} {r r' : R2} {g g' : D → D → Out D} {a b c : Expr} {fa fb fc : Rho → Out D} {pos : Pos} (ho : OpR X (compareOp op) r) (ho' : OpR X (compareOp op') r') (hm : lastMarks [op, op'] [b, c] = false) (hr : Row2 X W .v r g) (hr' : Row2 X W .v r' g')
    (ha : DE X H0 W .b a fa) (hb : DE X H0 W .b b fb) (hc : DE X H0 W .b c fc) : DE X H0 W .v (.Compare a [op, op'] [b, c] pos) fun ρ => (fa ρ).bind fun x => (fb ρ).bind fun y => chainD x y g g' (fc ρ) :=
  PE.imp (pe_chain ho ho' ha hb hc hm) fun _ _ _ h => tD.chain hr hr' h
theorem dt_chain {op op' : CmpOp} {r r' : R2} {g g' : D → D → Out D} {a b c : Expr} {fa fb fc : Rho → Out D} {pos : Pos} (ho : OpR X (compareOp op) r) (ho' : OpR X (compareOp op') r') (hm : lastMarks [op, op'] [b, c] = false) (hr : Row2 X W .v r g) (hr' : Row2 X W .v r' g')
    (ha : DE X H0 W .b a fa) (hb : DE X H0 W .b b fb) (hc : DE X H0 W .b c fc) : DT X H0 W (.Compare a [op, op'] [b, c] pos) fun ρ => ((fa ρ).bind fun x => (fb ρ).bind fun y => chainD x y g g' (fc ρ)).bind boolD :=
  dt_of (pt_chain ho ho' ha hb hc hm) fun _ _ _ h => tD.chain hr hr' h
/-! ## and, or, not as tests -/
theorem dt_not {e : Expr} {f : Rho → Out Bool} {pos : Pos} (h : DT X H0 W e f) : DT X H0 W (.UnaryOp .Not e pos) fun ρ => (f ρ).bind fun k => .ok (!k) :=
  PT.imp (pt_not h) fun σ H Q ⟨ρ, U, P, q⟩ => ⟨ρ, U, P, by
    replace q : PostA X W σ H Q ((f ρ).bind fun k => .ok (!k)) := q
    revert q
    cases f ρ with
    | exc c fs => exact fun q => q
    | stuck => exact fun q => q
    | ok k => exact fun q => q⟩
theorem dw_and1 {e : Expr} {f : Rho → Out Bool} {pos : Pos} (h : DT X H0 W e f) : DW X H0 W (.BoolOp .And [e] pos) f := pw_and1 h
theorem dw_or1 {e : Expr} {f : Rho → Out Bool} {pos : Pos} (h : DT X H0 W e f) : DW X H0 W (.BoolOp .Or [e] pos) f := pw_or1 h
theorem dw_and {e e2 : Expr} {es : List Expr} {f g : Rho → Out Bool} {pos : Pos} (h : DT X H0 W e f) (t : DW X H0 W (.BoolOp .And (e2 :: es) pos) g) :
    DW X H0 W (.BoolOp .And (e :: e2 :: es) pos) fun ρ => (f ρ).bind fun k => if k = true then g ρ else .ok false :=
  PW.imp (pw_and h t) fun σ H Q ⟨ρ, U, P, q⟩ => ⟨ρ, U, P, by
    replace q : PostA X W σ H Q ((f ρ).bind fun k => if k = true then g ρ else .ok false) := q
    revert q
    cases f ρ with
    | exc c fs => exact fun q => q
    | stuck => exact fun q => q
    | ok k =>
      intro q H1 s1
      cases k with
      | false => exact q H1 s1
      | true => exact ⟨ρ, U, P.same s1, PostA.later s1 q⟩⟩
theorem dw_or {e e2 : Expr} {es : List Expr} {f g : Rho → Out Bool} {pos : Pos} (h : DT X H0 W e f) (t : DW X H0 W (.BoolOp .Or (e2 :: es) pos) g) :
    DW X H0 W (.BoolOp .Or (e :: e2 :: es) pos) fun ρ => (f ρ).bind fun k => if k = true then .ok true else g ρ :=
  PW.imp (pw_or h t) fun σ H Q ⟨ρ, U, P, q⟩ => ⟨ρ, U, P, by
    replace q : PostA X W σ H Q ((f ρ).bind fun k => if k = true then .ok true else g ρ) := q
    revert q
    cases f ρ with
    | exc c fs => exact fun q => q
    | stuck => exact fun q => q
    | ok k =>
      intro q H1 s1
      cases k with
      | true => exact q H1 s1
      | false => exact ⟨ρ, U, P.same s1, PostA.later s1 q⟩⟩
/-- a if t else b, as a test -/
theorem dt_ifExp {c a b : Expr} {fc fa fb : Rho → Out Bool} {pos : Pos} (hc : DT X H0 W c fc) (ha : DT X H0 W a fa) (hb : DT X H0 W b fb) : DT X H0 W (.IfExp c a b pos) fun ρ => (fc ρ).bind fun k => if k = true then fa ρ else fb ρ := by
  refine ⟨fun pins s σ H Q I ⟨ρ, U, P, q⟩ => ?_⟩
  replace q : PostA X W σ H Q ((fc ρ).bind fun k => if k = true then fa ρ else fb ρ) := q
  show wpAny _ _ (do if ← isTrue c X.env (eval c X.env) then isTrue a X.env (eval a X.env) else isTrue b X.env (eval b X.env)) _ _ _
  refine wpAny_bind (thn (hc.run pins s σ H (fun k H1 => Same H H1 ∧ fc ρ = .ok k) I ⟨ρ, U, P, ?_⟩) fun k s1 ⟨H1, I1, s01, ek⟩ => ?_)
  · cases ef : fc ρ with
    | exc c fs =>
      rw [ef] at q
      exact q
    | stuck =>
      rw [ef] at q
      exact q
    | ok k => exact fun H1 s1 => ⟨s1, rfl⟩
  · rw [ek] at q
    cases k with
    | true => exact ha.run pins s1 σ H1 Q I1 ⟨ρ, U, P.same s01, PostA.later s01 q⟩
    | false => exact hb.run pins s1 σ H1 Q I1 ⟨ρ, U, P.same s01, PostA.later s01 q⟩
/-! ## values -/
theorem de_ifExp {m : Md} {c a b : Expr} {fc : Rho → Out Bool} {fa fb : Rho → Out D} {pos : Pos} (hc : DT X H0 W c fc) (ha : DE X H0 W m a fa) (hb : DE X H0 W m b fb) : DE X H0 W m (.IfExp c a b pos) fun ρ => (fc ρ).bind fun k => if k = true then fa ρ else fb ρ :=
  PE.imp (pe_ifExp hc ha hb) fun σ H Q ⟨ρ, U, P, q⟩ => ⟨ρ, U, P, by
    replace q : PostM X W m σ H U Q ((fc ρ).bind fun k => if k = true then fa ρ else fb ρ) := q
    revert q
    cases fc ρ with
    | exc c fs => exact fun q => q
    | stuck => exact fun q => q
    | ok k =>
      intro q H1 s1
      cases k with
      | true => exact ⟨ρ, U, P.same s1, PostM.later s1 q⟩
      | false => exact ⟨ρ, U, P.same s1, PostM.later s1 q⟩⟩
/-- a test whose truth is wanted as a value: not, and a comparison -/
theorem de_notV {e : Expr} {f : Rho → Out D} {pos : Pos} (h : DE X H0 W .b e f) : DE X H0 W .v (.UnaryOp .Not e pos) fun ρ => ((f ρ).bind truthD).bind fun k => .ok (.bool (!k)) := by
  refine ⟨fun pins s σ H Q I ⟨ρ, U, P, q⟩ => ?_⟩
  replace q : PostM X W .v σ H U Q (((f ρ).bind truthD).bind fun k => .ok (.bool (!k))) := q
  refine UnaryOp_ (thn (h.run pins s σ H (fun v H1 => Same H H1 ∧ ∃ d U, f ρ = .ok d ∧ BRep X.K U H1 v d) I ⟨ρ, U, P, ?_⟩) fun u s1 ⟨v, H1, I1, r1, s01, d, U1, ed, rd⟩ => ?_)
  · cases ef : f ρ with
    | exc c fs =>
      rw [ef] at q
      exact q
    | stuck =>
      rw [ef] at q
      exact q
    | ok d => exact fun v H1 s1 r => ⟨s1, d, U, rfl, r⟩
  · rw [ed] at q
    replace q : PostM X W .v σ H U Q ((truthD d).bind fun k => .ok (.bool (!k))) := q
    cases ek : truthD d with
    | exc c fs =>
      cases d <;> simp [truthD] at ek <;> (split at ek <;> cases ek)
    | stuck =>
      rw [ek] at q
      exact q.elim
    | ok k =>
      rw [ek] at q
      exact not_of (thn (tru_brep (Q := fun c H2 => c = k ∧ H2 = H1) I1 r1 rd ek ⟨rfl, rfl⟩) fun c s2 ⟨H2, I2, e1, e2⟩ => by
        subst e1 e2
        exact ⟨.bl (!c), H2, I2, rfl, q (.bl (!c)) H2 s01 (.bl _)⟩)
theorem de_one {m : Md} {op : BoolOp} {e : Expr} {f : Rho → Out D} {pos : Pos} (h : DE X H0 W m e f) : DE X H0 W m (.BoolOp op [e] pos) f := pe_one h
theorem de_andV {e e2 : Expr} {es : List Expr} {f g : Rho → Out D} {pos : Pos} (h : DE X H0 W .v e f) (t : DE X H0 W .v (.BoolOp .And (e2 :: es) pos) g) :
    DE X H0 W .v (.BoolOp .And (e :: e2 :: es) pos) fun ρ => (f ρ).bind fun d => (truthD d).bind fun k => if k = true then g ρ else .ok d := by
  refine ⟨fun pins s σ H Q I ⟨ρ, U, P, q⟩ => ?_⟩
  replace q : PostM X W .v σ H U Q ((f ρ).bind fun d => (truthD d).bind fun k => if k = true then g ρ else .ok d) := q
  refine BoolOp_and (thn (h.run pins s σ H (fun v H1 => Same H H1 ∧ ∃ d, f ρ = .ok d ∧ Rep X.K U H1 v d) I ⟨ρ, U, P, ?_⟩) fun u s1 ⟨v, H1, I1, r1, s01, d, ed, rd⟩ => ?_)
  · cases ef : f ρ with
    | exc c fs =>
      rw [ef] at q
      exact q
    | stuck =>
      rw [ef] at q
      exact q
    | ok d => exact fun v H1 s1 r => ⟨s1, d, rfl, r⟩
  · rw [ed] at q
    replace q : PostM X W .v σ H U Q ((truthD d).bind fun k => if k = true then g ρ else .ok d) := q
    cases ek : truthD d with
    | exc c fs =>
      cases d <;> simp [truthD] at ek <;> (split at ek <;> cases ek)
    | stuck =>
      rw [ek] at q
      exact q.elim
    | ok k =>
      rw [ek] at q
      refine thn (tru_brep (Q := fun c H2 => c = k ∧ H2 = H1) I1 r1 (.inl rd) ek ⟨rfl, rfl⟩) fun c s2 ⟨H2, I2, e1, e2⟩ => ?_
      subst e1 e2
      cases c with
      | true => exact t.run pins s2 σ H2 Q I2 ⟨ρ, U, P.same s01, PostM.later s01 q⟩
      | false => exact ⟨v, H2, I2, r1, q v H2 s01 rd⟩
theorem de_orV {e e2 : Expr} {es : List Expr} {f g : Rho → Out D} {pos : Pos} (h : DE X H0 W .v e f) (t : DE X H0 W .v (.BoolOp .Or (e2 :: es) pos) g) :
    DE X H0 W .v (.BoolOp .Or (e :: e2 :: es) pos) fun ρ => (f ρ).bind fun d => (truthD d).bind fun k => if k = true then .ok d else g ρ := by
  refine ⟨fun pins s σ H Q I ⟨ρ, U, P, q⟩ => ?_⟩
  replace q : PostM X W .v σ H U Q ((f ρ).bind fun d => (truthD d).bind fun k => if k = true then .ok d else g ρ) := q
  refine BoolOp_or (thn (h.run pins s σ H (fun v H1 => Same H H1 ∧ ∃ d, f ρ = .ok d ∧ Rep X.K U H1 v d) I ⟨ρ, U, P, ?_⟩) fun u s1 ⟨v, H1, I1, r1, s01, d, ed, rd⟩ => ?_)
  · cases ef : f ρ with
    | exc c fs =>
      rw [ef] at q
      exact q
    | stuck =>
      rw [ef] at q
      exact q
    | ok d => exact fun v H1 s1 r => ⟨s1, d, rfl, r⟩
  · rw [ed] at q
    replace q : PostM X W .v σ H U Q ((truthD d).bind fun k => if k = true then .ok d else g ρ) := q
    cases ek : truthD d with
    | exc c fs =>
      cases d <;> simp [truthD] at ek <;> (split at ek <;> cases ek)
    | stuck =>
      rw [ek] at q
      exact q.elim
    | ok k =>
      rw [ek] at q
      refine thn (tru_brep (Q := fun c H2 => c = k ∧ H2 = H1) I1 r1 (.inl rd) ek ⟨rfl, rfl⟩) fun c s2 ⟨H2, I2, e1, e2⟩ => ?_
      subst e1 e2
      cases c with
      | true => exact ⟨v, H2, I2, r1, q v H2 s01 rd⟩
      | false => exact t.run pins s2 σ H2 Q I2 ⟨ρ, U, P.same s01, PostM.later s01 q⟩
end
end Mp
namespace Mp
open PySem PySem.Spec PyProof.Rows L2
/-! ## calls of built-ins -/
def RowL (X : Cx) (W : WX) (m : Md) (r : List V → Hp → VK → Prop) (g : List D → Out D) : Prop :=
  ∀ σ U H vs ds Q, (∀ p, H p = none → ¬ U p) → BReps X.K U H vs ds → PostM X W m σ H U Q (g ds) → r vs H Q
section
variable {X : Cx} {H0 : Ent} {W : WX}
theorem tDA.row {m : Md} {r : List V → Hp → VK → Prop} {g : List D → Out D} {f : Rho → Out (List D)} {σ : L2.St} {H : Hp} {Q : VK} (hr : RowL X W m r g) (h : tD X H0 W m (fun ρ => (f ρ).bind g) σ H Q) :
    tCB r (tDA X H0 W true f) σ H Q := by
  obtain ⟨ρ, U, P, q⟩ := h
  replace q : PostM X W m σ H U Q ((f ρ).bind g) := q
  refine ⟨ρ, U, P, ?_⟩
  revert q
  cases f ρ with
  | exc c fs => exact fun q => q
  | stuck => exact fun q => q
  | ok ds => exact fun q vs H1 s1 r1 => hr σ U H1 vs ds Q (fun p hp => (P.same s1).fresh hp) r1 (PostM.later s1 q)
theorem de_callB {m : Md} {id : String} {x : Str} {p pos : Pos} {e : Expr} {es : List Expr} {r : List V → Hp → VK → Prop} {g : List D → Out D} {f : Rho → Out (List D)} (hc : CallR X (.builtin id) r) (hr : RowL X W m r g)
    (hg : Gl X x) (hm : X.mg x = none) (hv : bootBuiltins x = some (.builtin id)) (hn : x ≠ "__name__") (hdb : (x == ("__debug__" : Str)) = false)
    (he : starEach (e :: es) X.env = (false, eval e X.env) :: starEach es X.env) (hpl : (backTo pos (starEach es X.env)).any (·.1) = false)
    (ha : DA X H0 W true (e :: es) f) : DE X H0 W m (.Call (.Name x p) (e :: es) [] pos) fun ρ => (f ρ).bind g :=
  PE.imp (pe_callB hc hg hm hv ha hn hdb he hpl) fun _ _ _ h => tDA.row hr h
theorem de_callTy {m : Md} {T : String} {x : Str} {p pos : Pos} {e : Expr} {es : List Expr} {r : List V → Hp → VK → Prop} {g : List D → Out D} {f : Rho → Out (List D)} (hc : CallR X (.type T) r) (hr : RowL X W m r g)
    (hg : Gl X x) (hm : X.mg x = none) (hv : bootBuiltins x = some (.type T)) (hn : x ≠ "__name__") (hdb : (x == ("__debug__" : Str)) = false)
    (he : starEach (e :: es) X.env = (false, eval e X.env) :: starEach es X.env) (hpl : (backTo pos (starEach es X.env)).any (·.1) = false)
    (ha : DA X H0 W true (e :: es) f) : DE X H0 W m (.Call (.Name x p) (e :: es) [] pos) fun ρ => (f ρ).bind g :=
  PE.imp (pe_callTy hc hg hm hv ha hn hdb he hpl) fun _ _ _ h => tDA.row hr h
end
theorem breps1 {K : PySem.W.Frag} {U : Addr → Prop} {H : Hp} {vs : List V} {d : D} (r : BReps K U H vs [d]) : ∃ v, vs = [v] ∧ BRep K U H v d := by
  cases r with
  | cons r t =>
    cases t
    exact ⟨_, rfl, r⟩
theorem breps2 {K : PySem.W.Frag} {U : Addr → Prop} {H : Hp} {vs : List V} {d e : D} (r : BReps K U H vs [d, e]) : ∃ v u, vs = [v, u] ∧ BRep K U H v d ∧ BRep K U H u e := by
  cases r with
  | cons r t =>
    obtain ⟨u, rfl, r2⟩ := breps1 t
    exact ⟨_, u, rfl, r, r2⟩
theorem CallR.or {X : Cx} {f : Value} {r r' : List V → Hp → VK → Prop} (h : CallR X f r) (h' : CallR X f r') : CallR X f fun xs H Q => r xs H Q ∨ r' xs H Q :=
  fun pins s σ H xs us Q I r q => q.elim (h pins s σ H xs us Q I r) (h' pins s σ H xs us Q I r)
/-! ### len -/
def lenF : D → Out D
  | .str z => if z.length ≤ sizeLine then .ok (.int z.length) else .stuck
  | .list xs => .ok (.int xs.length)
  | .tuple xs => .ok (.int xs.length)
  | .dict es => if insB es = true then .stuck else .ok (.int es.length)
  | _ => .stuck
def one (f : D → Out D) : List D → Out D
  | [x] => f x
  | _ => .stuck
def two (f : D → D → Out D) : List D → Out D
  | [x, y] => f x y
  | _ => .stuck
theorem RowL.one {X : Cx} {W : WX} {m : Md} {r : List V → Hp → VK → Prop} {f : D → Out D} (h : ∀ σ U H v d Q, (∀ p, H p = none → ¬ U p) → BRep X.K U H v d → PostM X W m σ H U Q (f d) → r [v] H Q) : RowL X W m r (one f) := fun σ U H vs ds Q hf rs q => by
  match ds, rs, q with
  | [d], rs, q =>
    obtain ⟨v, rfl, r1⟩ := breps1 rs
    exact h σ U H v d Q hf r1 q
  | [], rs, q => exact q.elim
  | _ :: _ :: _, rs, q => exact q.elim
theorem RowL.two {X : Cx} {W : WX} {m : Md} {r : List V → Hp → VK → Prop} {f : D → D → Out D} (h : ∀ σ U H v u d e Q, (∀ p, H p = none → ¬ U p) → BRep X.K U H v d → BRep X.K U H u e → PostM X W m σ H U Q (f d e) → r [v, u] H Q) : RowL X W m r (two f) := fun σ U H vs ds Q hf rs q => by
  match ds, rs, q with
  | [d, e], rs, q =>
    obtain ⟨v, u, rfl, r1, r2⟩ := breps2 rs
    exact h σ U H v u d e Q hf r1 r2 q
  | [], rs, q => exact q.elim
  | [_], rs, q => exact q.elim
  | _ :: _ :: _ :: _, rs, q => exact q.elim
def rLenD : List V → Hp → VK → Prop := fun xs H Q => ∃ a kvs, xs = [V.ref a] ∧ Rd H a (.dK kvs) ∧ Q (.int kvs.length) H
section
variable {X : Cx} {W : WX}
theorem call_lenRd : CallR X (.builtin "len") rLenD := by
  intro pins s σ H xs us Q I r h
  obtain ⟨a, kvs, rfl, ha, q⟩ := h
  obtain ⟨u, rfl, ru⟩ := vals1 r
  cases ru
  exact d_len I ha fun t s' I' => ⟨.int kvs.length, H, I', ⟨t, rfl⟩, q⟩
theorem row_len : RowL X W .v (fun xs H Q => (∃ x n, xs = [x] ∧ LenV X.K x H n ∧ Q (.int n) H) ∨ rLenD xs H Q) (one lenF) := RowL.one fun σ U H v d Q hf r1 q => by
  cases d with
  | str z =>
    obtain rfl := r1.str
    replace q : PostM X W .v σ H U Q (if z.length ≤ sizeLine then .ok (.int z.length) else .stuck) := q
    split at q
    · rename_i hz
      exact .inl ⟨_, _, rfl, ⟨hz, rfl⟩, q.val (.int _)⟩
    · exact q.elim
  | list xs =>
    obtain ⟨a, vs, rfl, h1, t1⟩ := r1.lst
    exact .inl ⟨_, _, rfl, .inl ⟨vs, .inl h1, rfl⟩, by rw [t1.length]; exact q.val (.int _)⟩
  | tuple xs =>
    obtain ⟨a, vs, rfl, h1, t1⟩ := r1.tup
    exact .inl ⟨_, _, rfl, .inr ⟨vs, h1, rfl⟩, by rw [t1.length]; exact q.val (.int _)⟩
  | dict es =>
    replace q : PostM X W .v σ H U Q (if insB es = true then .stuck else .ok (.int es.length)) := q
    split at q
    · exact q.elim
    rename_i hins
    obtain ⟨a, vs, rfl, h1, t1⟩ := r1.dct (by simpa using hins)
    exact .inr ⟨a, vs, rfl, h1, by rw [t1.length]; exact q.val (.int _)⟩
  | _ => exact q.elim
/-! ### numbers -/
def absF : D → Out D
  | .int i => .ok (.int (if i < 0 then -i else i))
  | _ => .stuck
theorem row_abs : RowL X W .v (fun xs H Q => ∃ i, xs = [.int i] ∧ Q (.int (if i < 0 then -i else i)) H) (one absF) := RowL.one fun σ U H v d Q hf r1 q => by
  cases d with
  | int i =>
    obtain rfl := r1.int
    exact ⟨i, rfl, q.val (.int _)⟩
  | _ => exact q.elim
def intF : D → Out D
  | .int i => .ok (.int i)
  | .bool b => .ok (.int (if b = true then 1 else 0))
  | .str x => match PySem.intText? x with
    | some n => if x.length ≤ 640 then .ok (.int n) else .stuck
    | none => .stuck
  | _ => .stuck
theorem row_int1 : RowL X W .v (fun xs H Q => ((∃ i, xs = [.int i] ∧ Q (.int i) H) ∨ ∃ k, xs = [.bl k] ∧ Q (.int (if k = true then 1 else 0)) H) ∨ ∃ a n, xs = [.str a] ∧ PySem.intText? a = some n ∧ a.length ≤ 640 ∧ Q (.int n) H) (one intF) := RowL.one fun σ U H v d Q hf r1 q => by
  cases d with
  | int i =>
    obtain rfl := r1.int
    exact .inl (.inl ⟨i, rfl, q.val (.int _)⟩)
  | bool b =>
    obtain rfl := r1.bl
    exact .inl (.inr ⟨b, rfl, q.val (.int _)⟩)
  | str x =>
    obtain rfl := r1.str
    replace q : PostM X W .v σ H U Q (match PySem.intText? x with
      | some n => if x.length ≤ 640 then .ok (.int n) else .stuck
      | none => .stuck) := q
    split at q
    · rename_i n hn
      split at q
      · rename_i hl
        exact .inr ⟨x, n, rfl, hn, hl, q.val (.int _)⟩
      · exact q.elim
    · exact q.elim
  | _ => exact q.elim
def strF : D → Out D
  | .int i => if i.natAbs.log2 < 1920 then .ok (.str (toString i)) else .stuck
  | _ => .stuck
theorem row_str : RowL X W .v (fun xs H Q => ∃ i, xs = [.int i] ∧ i.natAbs.log2 < 1920 ∧ Q (.str (toString i)) H) (one strF) := RowL.one fun σ U H v d Q hf r1 q => by
  cases d with
  | int i =>
    obtain rfl := r1.int
    replace q : PostM X W .v σ H U Q (if i.natAbs.log2 < 1920 then .ok (.str (toString i)) else .stuck) := q
    split at q
    · rename_i hi
      exact ⟨i, rfl, hi, q.val (.str _)⟩
    · exact q.elim
  | _ => exact q.elim
def maxF2 : D → D → Out D
  | .int i, .int j => .ok (.int (if j > i then j else i))
  | _, _ => .stuck
def minF2 : D → D → Out D
  | .int i, .int j => .ok (.int (if j < i then j else i))
  | _, _ => .stuck
theorem row_max2 : RowL X W .v (fun xs H Q => ∃ i j, xs = [.int i, .int j] ∧ Q (.int (if j > i then j else i)) H) (two maxF2) := RowL.two fun σ U H v u d e Q hf r1 r2 q => by
  cases d with
  | int i => cases e with
    | int j =>
      obtain rfl := r1.int
      obtain rfl := r2.int
      exact ⟨i, j, rfl, q.val (.int _)⟩
    | _ => exact q.elim
  | _ => cases e <;> exact q.elim
theorem row_min2 : RowL X W .v (fun xs H Q => ∃ i j, xs = [.int i, .int j] ∧ Q (.int (if j < i then j else i)) H) (two minF2) := RowL.two fun σ U H v u d e Q hf r1 r2 q => by
  cases d with
  | int i => cases e with
    | int j =>
      obtain rfl := r1.int
      obtain rfl := r2.int
      exact ⟨i, j, rfl, q.val (.int _)⟩
    | _ => exact q.elim
  | _ => cases e <;> exact q.elim
/-! ### lists of ints, of bools, of texts -/
def intsOf : List D → Option (List Int)
  | [] => some []
  | .int i :: ds => (intsOf ds).map (i :: ·)
  | _ => none
def blsOf : List D → Option (List Bool)
  | [] => some []
  | .bool i :: ds => (blsOf ds).map (i :: ·)
  | _ => none
def strsOf : List D → Option (List Str)
  | [] => some []
  | .str i :: ds => (strsOf ds).map (i :: ·)
  | _ => none
theorem intsOf_eq : ∀ {ds : List D} {ns : List Int}, intsOf ds = some ns → ds = ns.map .int
  | [], ns, h => by
    cases h
    rfl
  | d :: ds, ns, h => by
    cases d with
    | int i =>
      simp only [intsOf, Option.map_eq_some_iff] at h
      obtain ⟨ms, h1, rfl⟩ := h
      rw [intsOf_eq h1]
      rfl
    | _ => cases h
theorem blsOf_eq : ∀ {ds : List D} {ns : List Bool}, blsOf ds = some ns → ds = ns.map .bool
  | [], ns, h => by
    cases h
    rfl
  | d :: ds, ns, h => by
    cases d with
    | bool i =>
      simp only [blsOf, Option.map_eq_some_iff] at h
      obtain ⟨ms, h1, rfl⟩ := h
      rw [blsOf_eq h1]
      rfl
    | _ => cases h
theorem strsOf_eq : ∀ {ds : List D} {ns : List Str}, strsOf ds = some ns → ds = ns.map .str
  | [], ns, h => by
    cases h
    rfl
  | d :: ds, ns, h => by
    cases d with
    | str i =>
      simp only [strsOf, Option.map_eq_some_iff] at h
      obtain ⟨ms, h1, rfl⟩ := h
      rw [strsOf_eq h1]
      rfl
    | _ => cases h
theorem intsOf_map (ns : List Int) : intsOf (ns.map .int) = some ns := by
  induction ns with
  | nil => rfl
  | cons n ns ih =>
    show (intsOf (ns.map .int)).map (n :: ·) = _
    rw [ih]
    rfl
theorem blsOf_map (ns : List Bool) : blsOf (ns.map .bool) = some ns := by
  induction ns with
  | nil => rfl
  | cons n ns ih =>
    show (blsOf (ns.map .bool)).map (n :: ·) = _
    rw [ih]
    rfl
theorem strsOf_map (ns : List Str) : strsOf (ns.map .str) = some ns := by
  induction ns with
  | nil => rfl
  | cons n ns ih =>
    show (strsOf (ns.map .str)).map (n :: ·) = _
    rw [ih]
    rfl
def overInts (g : List Int → Out D) : D → Out D
  | .list xs => match intsOf xs with
    | some ns => g ns
    | none => .stuck
  | _ => .stuck
def overBls (g : List Bool → Out D) : D → Out D
  | .list xs => match blsOf xs with
    | some ns => g ns
    | none => .stuck
  | _ => .stuck
def sumF : D → Out D := overInts fun ns => .ok (.int ns.sum)
def allF : D → Out D := overBls fun bs => .ok (.bool (bs.all id))
def anyF : D → Out D := overBls fun bs => .ok (.bool (bs.any id))
def maxL : Int → List Int → Int
  | m, [] => m
  | m, n :: ns => maxL (if n > m then n else m) ns
def minL : Int → List Int → Int
  | m, [] => m
  | m, n :: ns => minL (if n < m then n else m) ns
def maxF : D → Out D := overInts fun ns => match ns with
  | [] => .stuck
  | n :: ns => .ok (.int (maxL n ns))
def minF : D → Out D := overInts fun ns => match ns with
  | [] => .stuck
  | n :: ns => .ok (.int (minL n ns))
theorem maxL_ge : ∀ (ns : List Int) (m : Int), m ≤ maxL m ns ∧ (∀ y ∈ ns, y ≤ maxL m ns) ∧ (maxL m ns = m ∨ maxL m ns ∈ ns)
  | [], m => ⟨Int.le_refl _, fun _ h => (nomatch h), .inl rfl⟩
  | n :: ns, m => by
    obtain ⟨h1, h2, h3⟩ := maxL_ge ns (if n > m then n else m)
    simp only [maxL]
    refine ⟨by split at h1 <;> split <;> omega, fun y hy => ?_, ?_⟩
    · rcases List.mem_cons.mp hy with rfl | hy
      · split at h1 <;> split <;> omega
      · exact h2 y hy
    · rcases h3 with h3 | h3
      · rw [h3]
        split
        · exact .inr (List.mem_cons_self ..)
        · exact .inl rfl
      · exact .inr (List.mem_cons_of_mem _ h3)
theorem minL_le : ∀ (ns : List Int) (m : Int), minL m ns ≤ m ∧ (∀ y ∈ ns, minL m ns ≤ y) ∧ (minL m ns = m ∨ minL m ns ∈ ns)
  | [], m => ⟨Int.le_refl _, fun _ h => (nomatch h), .inl rfl⟩
  | n :: ns, m => by
    obtain ⟨h1, h2, h3⟩ := minL_le ns (if n < m then n else m)
    simp only [minL]
    refine ⟨by split at h1 <;> split <;> omega, fun y hy => ?_, ?_⟩
    · rcases List.mem_cons.mp hy with rfl | hy
      · split at h1 <;> split <;> omega
      · exact h2 y hy
    · rcases h3 with h3 | h3
      · rw [h3]
        split
        · exact .inr (List.mem_cons_self ..)
        · exact .inl rfl
      · exact .inr (List.mem_cons_of_mem _ h3)
theorem row_ints {r : List V → Hp → VK → Prop} {g : List Int → Out D} (h : ∀ σ U H a ns Q, SqL X.K H a (ns.map V.int) → PostM X W .v σ H U Q (g ns) → r [.ref a] H Q) : RowL X W .v r (one (overInts g)) := RowL.one fun σ U H v d Q hf r1 q => by
  cases d with
  | list xs =>
    obtain ⟨a, vs, rfl, h1, t1⟩ := r1.lst
    simp only [overInts] at q
    split at q
    · rename_i ns hn
      obtain rfl := intsOf_eq hn
      rw [Reps.ints t1] at h1
      exact h σ U H a ns Q (.inl h1) q
    · exact q.elim
  | _ => exact q.elim
theorem row_bls {r : List V → Hp → VK → Prop} {g : List Bool → Out D} (h : ∀ σ U H a ns Q, SqL X.K H a (ns.map V.bl) → PostM X W .v σ H U Q (g ns) → r [.ref a] H Q) : RowL X W .v r (one (overBls g)) := RowL.one fun σ U H v d Q hf r1 q => by
  cases d with
  | list xs =>
    obtain ⟨a, vs, rfl, h1, t1⟩ := r1.lst
    simp only [overBls] at q
    split at q
    · rename_i ns hn
      obtain rfl := blsOf_eq hn
      rw [Reps.bls t1] at h1
      exact h σ U H a ns Q (.inl h1) q
    · exact q.elim
  | _ => exact q.elim
theorem row_sum : RowL X W .v (rSum X.K) (one sumF) := row_ints fun σ U H a ns Q h q => ⟨a, ns, rfl, h, q.val (.int _)⟩
theorem row_all : RowL X W .v (rAll X.K) (one allF) := row_bls fun σ U H a ns Q h q => ⟨a, ns, rfl, h, q.val (.bl _)⟩
theorem row_any : RowL X W .v (rAny X.K) (one anyF) := row_bls fun σ U H a ns Q h q => ⟨a, ns, rfl, h, q.val (.bl _)⟩
theorem row_max : RowL X W .v (rMax X.K) (one maxF) := row_ints fun σ U H a ns Q h q => by
  cases ns with
  | nil => exact q.elim
  | cons n ns =>
    refine ⟨a, _, rfl, h, Nat.succ_pos _, fun m h1 h2 => ?_⟩
    obtain ⟨k1, k2, k3⟩ := maxL_ge ns n
    have e : m = maxL n ns := by
      refine Int.le_antisymm ?_ (h2 _ ?_)
      · rcases List.mem_cons.mp h1 with rfl | h1
        · exact k1
        · exact k2 m h1
      · rcases k3 with k3 | k3
        · rw [k3]; exact List.mem_cons_self ..
        · exact List.mem_cons_of_mem _ k3
    rw [e]
    exact q.val (.int _)
theorem row_min : RowL X W .v (rMin X.K) (one minF) := row_ints fun σ U H a ns Q h q => by
  cases ns with
  | nil => exact q.elim
  | cons n ns =>
    refine ⟨a, _, rfl, h, Nat.succ_pos _, fun m h1 h2 => ?_⟩
    obtain ⟨k1, k2, k3⟩ := minL_le ns n
    have e : m = minL n ns := by
      refine Int.le_antisymm (h2 _ ?_) ?_
      · rcases k3 with k3 | k3
        · rw [k3]; exact List.mem_cons_self ..
        · exact List.mem_cons_of_mem _ k3
      · rcases List.mem_cons.mp h1 with rfl | h1
        · exact k1
        · exact k2 m h1
    rw [e]
    exact q.val (.int _)
/-! ### tuple, list, dict -/
def tupleF : D → Out D
  | .list xs => .ok (.tuple xs)
  | .tuple xs => .ok (.tuple xs)
  | _ => .stuck
theorem row_tuple : RowL X W .v (rTupN X.K) (one tupleF) := RowL.one fun σ U H v d Q hf r1 q => by
  cases d with
  | list xs =>
    obtain ⟨a, vs, rfl, h1, t1⟩ := r1.lst
    exact ⟨a, vs, rfl, .inl ⟨.inl h1, q.tup hf t1⟩⟩
  | tuple xs =>
    obtain ⟨a, vs, e, h1, t1⟩ := r1.tup
    subst e
    rcases r1 with r1 | ⟨_, _, _, z⟩
    · exact ⟨a, vs, rfl, .inr ⟨h1, q.val r1⟩⟩
    · exact z.elim
  | _ => exact q.elim
def listF : D → Out D
  | .list xs => .ok (.list xs)
  | .tuple xs => .ok (.list xs)
  | .dict es => if insB es = true then .stuck else .ok (.list (es.map (·.1)))
  | _ => .stuck
theorem RepK.keys {K : PySem.W.Frag} {U : Addr → Prop} {H : Hp} : ∀ {kvs : List (Key × V)} {es : List (D × D)}, RepK K U H kvs es → Reps K U H (kvs.map fun kv => kV kv.1) (es.map (·.1))
  | _, _, .nil => .nil
  | _, _, .cons (k := k) r t => .cons (by cases k <;> constructor) (RepK.keys t)
theorem row_list : RowL X W .f (fun xs H Q => (∃ p ys, xs = [.ref p] ∧ (SqL X.K H p ys ∨ SqT X.K H p ys) ∧ ∀ l, H l = none → Q (.ref l) (upd H l (.lst ys))) ∨
    ∃ (a : Addr) (kvs : List (Key × V)), xs = [.ref a] ∧ Rd H a (.dK kvs) ∧ ∀ p, H p = none → Q (.ref p) (upd H p (.lst (kvs.map fun kv => kV kv.1)))) (one listF) := RowL.one fun σ U H v d Q hf r1 q => by
  cases d with
  | list xs =>
    obtain ⟨a, vs, rfl, h1, t1⟩ := r1.lst
    exact .inl ⟨a, vs, rfl, .inl (.inl h1), q.lst hf t1⟩
  | tuple xs =>
    obtain ⟨a, vs, rfl, h1, t1⟩ := r1.tup
    exact .inl ⟨a, vs, rfl, .inr h1, q.lst hf t1⟩
  | dict es =>
    replace q : PostM X W .f σ H U Q (if insB es = true then .stuck else .ok (.list (es.map (·.1)))) := q
    split at q
    · exact q.elim
    rename_i hins
    obtain ⟨a, vs, rfl, h1, t1⟩ := r1.dct (by simpa using hins)
    exact .inr ⟨a, vs, rfl, h1, q.lst hf t1.keys⟩
  | _ => exact q.elim
theorem PostM.dct {σ : L2.St} {H : Hp} {U : Addr → Prop} {Q : VK} {es : List (D × D)} {kvs : List (Key × V)} (h : PostM X W .f σ H U Q (.ok (.dict es))) (hf : ∀ p, H p = none → ¬ U p) (r : RepK X.K U H kvs es) : ∀ p, H p = none → Q (.ref p) (upd H p (.dK kvs)) := fun p hp =>
  h _ _ (same_new hp) ⟨p, rfl, hp, .inl ⟨kvs, upd_same, r.mono ⟨fun a o e _ => same_new hp _ _ e, fun a z => z.imp id fun e => by rw [e]; exact hp⟩⟩⟩
/-- pairs -/
def pairsOf : List D → Option (List (Key × D))
  | [] => some []
  | .tuple [k, v] :: ds => match keyOf k with
    | some k => (pairsOf ds).map ((k, v) :: ·)
    | none => none
  | _ => none
def mergeE (es : List (D × D)) : List (Key × D) → List (D × D)
  | [] => es
  | (k, v) :: ps => mergeE (putE es k v) ps
def dictF : D → Out D
  | .list ds => match pairsOf ds with
    | some ps => .ok (.dict (mergeE [] ps))
    | none => .stuck
  | .tuple ds => match pairsOf ds with
    | some ps => .ok (.dict (mergeE [] ps))
    | none => .stuck
  | .dict es => if insB es = true then .stuck else .ok (.dict es)
  | _ => .stuck
theorem reps2 {K : PySem.W.Frag} {U : Addr → Prop} {H : Hp} {vs : List V} {d e : D} (r : Reps K U H vs [d, e]) : ∃ v u, vs = [v, u] ∧ Rep K U H v d ∧ Rep K U H u e := by
  cases r with
  | cons r t =>
    cases t with
    | cons r2 t =>
      cases t
      exact ⟨_, _, rfl, r, r2⟩
theorem pairs_reps {K : PySem.W.Frag} {U : Addr → Prop} {H : Hp} : ∀ {ds : List D} {ps : List (Key × D)} {vs : List V}, pairsOf ds = some ps → Reps K U H vs ds →
    ∃ (qs : List Addr) (kvs : List (Key × V)), vs = qs.map V.ref ∧ Paired (fun p kv => SqT K H p [kV kv.1, kv.2]) qs kvs ∧ Paired (fun kv kd => kv.1 = kd.1 ∧ Rep K U H kv.2 kd.2) kvs ps
  | [], ps, vs, h, r => by
    cases h
    cases r
    exact ⟨[], [], rfl, .nil, .nil⟩
  | d :: ds, ps, vs, h, r => by
    cases r with
    | cons r1 t =>
      unfold pairsOf at h
      split at h
      · rename_i heq
        cases heq
      · rename_i k v ds' heq
        injection heq with h1 h2
        subst h1 h2
        split at h
        · rename_i k' hk
          obtain ⟨ps', h3, rfl⟩ := Option.map_eq_some_iff.mp h
          obtain ⟨qs, kvs, e1, e2, e3⟩ := pairs_reps h3 t
          obtain ⟨a, xs, rfl, h4, t4⟩ := BRep.tup (.inl r1)
          obtain ⟨x, y, rfl, r5, r6⟩ := reps2 t4
          obtain ⟨rfl, rfl⟩ := keyOf_brep hk (.inl r5)
          exact ⟨a :: qs, (k', y) :: kvs, by rw [e1]; rfl, .cons h4 e2, .cons ⟨rfl, r6⟩ e3⟩
        · cases h
      · cases h
theorem merge_rep {K : PySem.W.Frag} {U : Addr → Prop} {H : Hp} : ∀ {kvs : List (Key × V)} {ps : List (Key × D)}, Paired (fun kv kd => kv.1 = kd.1 ∧ Rep K U H kv.2 kd.2) kvs ps → ∀ {as : List (Key × V)} {es : List (D × D)}, RepK K U H as es → RepK K U H (mergeK as kvs) (mergeE es ps)
  | _, _, .nil, as, es, r => by
    unfold mergeK mergeE
    exact r
  | (k, v) :: kvs, (k', d) :: ps, .cons h t, as, es, r => by
    obtain ⟨rfl, r1⟩ := h
    have e : mergeK as ((k, v) :: kvs) = mergeK (putK as k v) kvs := by first | rfl | simp [mergeK]
    rw [e]
    exact merge_rep t (r.put r1)
/-! dict(t), t a tuple of pairs -/
section
variable {X : Cx}
theorem plT_seq {K : PySem.W.Frag} {pins : List (Addr × Obj)} {σ : L2.St} {H : Hp} {s : Shared} {a : Addr} {xs : List V} (I : Inv X pins σ H s) (h : PlT X.K H a xs) : ∃ us : List Value, Vals xs us ∧ PySem.PlainSeq "tuple" s.heap a us.toArray ∧ xs.length ≤ sizeLine := by
  rcases h with ⟨q, e, d⟩ | ⟨o, us, k, ⟨e, c⟩, d, dt, z, r⟩
  · obtain ⟨g, z, us, r, o, g2, c, n, dt⟩ := I.hok a _ e
    rw [g] at g2
    cases g2
    exact ⟨us, r, ⟨q, n, g, c, d, dt⟩, z⟩
  · exact ⟨us.toList, r, ⟨o, k, I.kIn _ _ e, c, d, by rw [dt]⟩, by rw [r.length, Array.length_toList]; exact z⟩
def rDictT (K : PySem.W.Frag) : List V → Hp → VK → Prop := fun xs H Q => ∃ (a : Addr) (ps : List Addr) (kvs : List (Key × V)), xs = [.ref a] ∧ PlT K H a (ps.map V.ref) ∧ Paired (fun p kv => SqT K H p [kV kv.1, kv.2]) ps kvs ∧
    ∀ p, H p = none → Q (.ref p) (upd H p (.dK (mergeK [] kvs)))
theorem call_dictT (hcalm : X.calm = true) : CallR X (.type "dict") (rDictT X.K) := by
  intro pins s σ H xs us Q I r ⟨a, ps, kvs, ex, hq, hp, q⟩
  subst ex
  obtain ⟨u, eu, rx⟩ := vals1 r
  subst eu
  cases rx
  obtain ⟨its, rv, pl, hz⟩ := plT_seq (K := X.K) I hq
  have ei := refs_at rv
  subst ei
  rw [List.length_map] at hz
  obtain ⟨prs, rel, hl, hpr⟩ := pairs_of I hp
  have hk : ∀ (j : Nat) (q' : Key × Value), prs[j]? = some q' → ∃ (b : Addr) (w : Value), ps[j]? = some b ∧ IsTup s.heap b #[w, q'.2] ∧ keyIs q'.1 w = true := hpr
  -- the keys' values, by places
  have hw : ∃ ws : List (Value × Value), ws.length = ps.length ∧ ∀ (j : Nat) (q' : Key × Value), prs[j]? = some q' → ∃ b w, ps[j]? = some b ∧ ws[j]? = some (w, q'.2) ∧ IsTup s.heap b #[w, q'.2] ∧ keyIs q'.1 w = true := by
    clear rel hq hp q hpr pl rv hz r
    induction ps generalizing prs with
    | nil => exact ⟨[], rfl, fun j q' e => by
        have := (List.getElem?_eq_some_iff.mp e).1
        rw [hl] at this
        exact absurd this (Nat.not_lt_zero _)⟩
    | cons b ps ih =>
      cases prs with
      | nil => simp at hl
      | cons p0 prs =>
        obtain ⟨ws, h1, h2⟩ := ih prs (by simpa using hl) fun j q' e => by
          obtain ⟨b', w, e1, e2⟩ := hk (j + 1) q' (by simpa using e)
          exact ⟨b', w, by simpa using e1, e2⟩
        obtain ⟨b0, w0, e1, e2, e3⟩ := hk 0 p0 rfl
        cases (Option.some.inj e1)
        refine ⟨(w0, p0.2) :: ws, by simp [h1], fun j q' e => ?_⟩
        cases j with
        | zero =>
          cases (Option.some.inj e)
          exact ⟨b, w0, rfl, rfl, e2, e3⟩
        | succ j =>
          obtain ⟨b', w, g1, g2, g3⟩ := h2 j q' (by simpa using e)
          exact ⟨b', w, by simpa using g1, by simpa using g2, g3⟩
  obtain ⟨ws, lw, hws⟩ := hw
  have lp : prs.length = ws.length := hl.trans lw.symm
  have PA := PySem.PairArg.tuple (prog := X.prog) (w := X.w) a (ps.map Value.ref).toArray (fun j => ps.getD j a) ws
  refine PySem.call_dict_pairs (knd := mixKind X.prog X.w) (kvs := prs) PA (I.ok.hd hcalm) ⟨pl, by simp [lw], fun j k v e => ?_⟩ ⟨lp, fun j k v (e : ws[j]? = some (k, v)) => ?_⟩ (by rw [lw]; exact hz) fun h' tk hd' kp => ?_
  · have hj : j < prs.length := by rw [lp]; exact (List.getElem?_eq_some_iff.mp e).1
    obtain ⟨b, w, e1, e2, e3, _⟩ := hws j _ (List.getElem?_eq_getElem hj)
    rw [e2] at e
    have e' := Option.some.inj e
    injection e' with ek ev
    subst ek ev
    refine ⟨by simp [List.getD, e1], .inl ?_⟩
    simp only [List.getD, e1, Option.getD_some]
    exact e3
  · have hj : j < prs.length := by rw [lp]; exact (List.getElem?_eq_some_iff.mp e).1
    obtain ⟨b, w, e1, e2, e3, e4⟩ := hws j _ (List.getElem?_eq_getElem hj)
    rw [e2] at e
    have e' := Option.some.inj e
    injection e' with ek ev
    subst ek ev
    exact ⟨prs[j].1, by rw [List.getElem?_eq_getElem hj], e4⟩
  · have hm : (s.heap.objs.size == sysModules) = false := beq_eq_false_iff_ne.mpr (Nat.ne_of_gt I.big)
    have hlen : (mergeK [] kvs).length ≤ sizeLine := by
      have l2 := length_mergeK kvs []
      have l3 := rel.length
      simp only [List.length_nil] at l2
      omega
    exact ⟨.ref _, upd H s.heap.objs.size (.dK (mergeK [] kvs)), I.laid (t' := tk) (fun b o e => kp b o (fun z => nomatch z) e) (Nat.le_refl _) ⟨hlen, hm, _, KV.merge rel .nil, hd'⟩, rfl, q _ (I.hok.fresh (Nat.le_refl _))⟩
end
theorem row_dict : RowL X W .f (fun xs H Q => (∃ (a : Addr) (ps : List Addr) (kvs : List (Key × V)), xs = [.ref a] ∧ SqL X.K H a (ps.map V.ref) ∧ Paired (fun p kv => SqT X.K H p [kV kv.1, kv.2]) ps kvs ∧
    ∀ p, H p = none → Q (.ref p) (upd H p (.dK (mergeK [] kvs)))) ∨ (∃ (a : Addr) (kvs : List (Key × V)), xs = [.ref a] ∧ Rd H a (.dK kvs) ∧ ∀ p, H p = none → Q (.ref p) (upd H p (.dK kvs))) ∨ rDictT X.K xs H Q) (one dictF) := RowL.one fun σ U H v d Q hf r1 q => by
  cases d with
  | list ds =>
    obtain ⟨a, vs, rfl, h1, t1⟩ := r1.lst
    simp only [dictF] at q
    split at q
    · rename_i ps hp
      obtain ⟨qs, kvs, rfl, e2, e3⟩ := pairs_reps hp t1
      exact .inl ⟨a, qs, kvs, rfl, .inl h1, e2, q.dct hf (merge_rep e3 .nil)⟩
    · exact q.elim
  | tuple ds =>
    obtain ⟨a, vs, rfl, h1, t1⟩ := r1.tupN
    simp only [dictF] at q
    split at q
    · rename_i ps hp
      obtain ⟨qs, kvs, rfl, e2, e3⟩ := pairs_reps hp t1
      exact .inr (.inr ⟨a, qs, kvs, rfl, h1, e2, q.dct hf (merge_rep e3 .nil)⟩)
    · exact q.elim
  | dict es =>
    replace q : PostM X W .f σ H U Q (if insB es = true then .stuck else .ok (.dict es)) := q
    split at q
    · exact q.elim
    rename_i hins
    obtain ⟨a, vs, rfl, h1, t1⟩ := r1.dct (by simpa using hins)
    exact .inr (.inl ⟨a, vs, rfl, h1, q.dct hf t1⟩)
  | _ => exact q.elim
end
end Mp
namespace Mp
open PySem PySem.Spec PyProof.Rows L2
/-! ## sorted -/
def alikeB (ds : List D) : Bool := ds.all fun d => ds.all fun e => PySem.W.alike d e
def tupHd : D → Bool
  | .tuple (_ :: _) => true
  | _ => false
def noTup : D → Bool
  | .none => false
  | .tuple _ => false
  | _ => true
def sortB (ds : List D) : Bool := ds.all tupHd || ds.all noTup
def sortL (ds : List D) : List D := ds.mergeSort (PySem.W.dataLe false id)
theorem alikeB_ok {ds : List D} (h : alikeB ds = true) : PySem.W.AllAlike (ds.map id) := by
  rw [List.map_id]
  intro d hd e he
  exact List.all_eq_true.mp (List.all_eq_true.mp h d hd) e he
theorem sortB_ok {ds : List D} (h : sortB ds = true) : PySem.W.Sortable (ds.map id) := by
  rw [List.map_id]
  rcases Bool.or_eq_true_iff.mp h with h | h
  · refine .inl fun d hd => ?_
    have := List.all_eq_true.mp h d hd
    unfold tupHd at this
    split at this
    · exact ⟨_, _, rfl⟩
    · cases this
  · refine .inr fun d hd => ?_
    have := List.all_eq_true.mp h d hd
    constructor
    · rintro rfl
      cases this
    · rintro xs rfl
      cases this
def keyStrs : List (D × D) → Option (List Str)
  | [] => some []
  | (.str k, _) :: es => (keyStrs es).map (k :: ·)
  | _ => none
def keyInts : List (D × D) → Option (List Int)
  | [] => some []
  | (.int k, _) :: es => (keyInts es).map (k :: ·)
  | _ => none
def leI (a b : Int) : Bool := decide (a ≤ b)
def sortI (ks : List Int) : List Int := ks.mergeSort leI
def leS (a b : Str) : Bool := decide (a.cps.toList ≤ b.cps.toList)
def sortS (ks : List Str) : List Str := ks.mergeSort leS
def sortedF : D → Out D
  | .list ds => if fitAll dpt ds = true ∧ alikeB ds = true ∧ sortB ds = true then .ok (.list (sortL ds)) else .stuck
  | .dict es => match keyStrs es with
    | some ks => if ks.length < 64 then .ok (.list ((sortS ks).map .str)) else .stuck
    | none => match keyInts es with
      | some ks => if ks.length < 64 then .ok (.list ((sortI ks).map .int)) else .stuck
      | none => .stuck
  | _ => .stuck
def rSortData (K : PySem.W.Frag) : List V → Hp → VK → Prop := fun vs H Q => ∃ (a : Addr) (xs : List V) (ds : List D) (R : V → D → Prop), vs = [V.ref a] ∧ SqL K H a xs ∧ (Paired R xs ds ∧ ∀ v d, R v d → Dp K H v d) ∧ (fitAll dpt ds = true ∧ alikeB ds = true ∧ sortB ds = true) ∧
  ∀ (ys : List V) (p : Addr), Paired R ys (sortL ds) → H p = none → Q (.ref p) (upd H p (.lst ys))
section
variable {X : Cx}
theorem each_vals {R : V → D → Prop} {S : Value → D → Prop} (h : ∀ v u d, R v d → RelV v u → S u d) : ∀ {xs : List V} {ds : List D} {us : List Value}, Paired R xs ds → Vals xs us → PySem.W.EachIs S us ds
  | _, _, _, .nil, .nil => .nil
  | _, _, _, .cons r t, .cons q w => .cons (h _ _ _ r q) (each_vals h t w)
theorem vals_each {R : V → D → Prop} : ∀ {us : List Value} {ds : List D}, PySem.W.EachIs (fun u d => ∃ v, R v d ∧ RelV v u) us ds → ∃ xs, Paired R xs ds ∧ Vals xs us
  | _, _, .nil => ⟨[], .nil, .nil⟩
  | _, _, .cons ⟨v, r, q⟩ t => by
    obtain ⟨xs, h1, h2⟩ := vals_each t
    exact ⟨v :: xs, .cons r h1, .cons q h2⟩
theorem fitAll_mem : ∀ {ds : List D} {n : Nat}, fitAll n ds = true → ∀ d ∈ ds, fitD n d = true
  | [], _, _, d, hd => nomatch hd
  | e :: ds, n, h, d, hd => by
    simp only [fitAll, Bool.and_eq_true] at h
    rcases List.mem_cons.mp hd with rfl | hd
    · exact h.1
    · exact fitAll_mem h.2 d hd
theorem cr_sortData (hu : X.A.units + 64 < cLine) : CallR X (.builtin "sorted") (rSortData X.K) := by
  intro pins s σ H vs us Q I r h
  obtain ⟨a, xs, ds, R, rfl, hs, ⟨hp, hR⟩, ⟨h1, h2, h3⟩, q⟩ := h
  obtain ⟨its, rv, hl, hz⟩ := I.list hs
  rw [Vals.ref1 r]
  have lp : xs.length = ds.length := Paired.length hp
  have hall := fun d hd => fitD_ok d dpt (fitAll_mem h1 d hd)
  refine PySem.W.sorted_data (β := D) (enc := id) (bs := ds) (R := fun u d => ∃ v, R v d ∧ RelV v u) hl.isList
    (each_vals (fun v u d r q => ⟨v, r, q⟩) hp rv) (each_vals (fun v u d r q => Dp.reads I d v u (hR v d r) q) hp rv) (alikeB_ok h2) (sortB_ok h3)
    (by rw [← lp]; exact hz) (fun d hd => ?_) fun out e1 e2 => ?_
  · have h5 := (hall d hd).2
    have h6 : dpt = 60 := rfl
    show X.A.units + 2 + d.depth < cLine
    omega
  · obtain ⟨ys, g1, g2⟩ := vals_each e2
    obtain ⟨ep, he'⟩ := PyProof.Rows.sortedAll_at s.heap its out.toArray
    have hlen : ys.length ≤ sizeLine := by rw [g2.length, e1, ← lp]; exact hz
    exact ⟨.ref _, upd H (s.heap.objs.size + 1) (.lst ys), I.laid (t' := s.toks) (fun _ _ z => PyProof.Rows.sortedAll_old z) (Nat.le_succ _) ⟨hlen, out, ep, g2, by simpa using he'⟩, rfl, q ys _ g1 (I.hok.fresh (Nat.le_succ _))⟩
end
theorem keyStrs_eq {K : PySem.W.Frag} {U : Addr → Prop} {H : Hp} : ∀ {es : List (D × D)} {ks : List Str} {kvs : List (Key × V)}, keyStrs es = some ks → RepK K U H kvs es → kvs.map (·.1) = ks.map Sum.inr
  | [], ks, kvs, h, r => by
    cases h
    cases r
    rfl
  | e :: es, ks, kvs, h, r => by
    cases r with
    | cons r t =>
      rename_i k v kvs d
      cases k with
      | inl i => simp [keyStrs, keyD] at h
      | inr x =>
        simp only [keyD, keyStrs, Option.map_eq_some_iff] at h
        obtain ⟨ks', h1, rfl⟩ := h
        rw [List.map_cons, List.map_cons, keyStrs_eq h1 t]
theorem keyInts_eq {K : PySem.W.Frag} {U : Addr → Prop} {H : Hp} : ∀ {es : List (D × D)} {ks : List Int} {kvs : List (Key × V)}, keyInts es = some ks → RepK K U H kvs es → kvs.map (·.1) = ks.map Sum.inl
  | [], ks, kvs, h, r => by
    cases h
    cases r
    rfl
  | e :: es, ks, kvs, h, r => by
    cases r with
    | cons r t =>
      rename_i k v kvs d
      cases k with
      | inr x => simp [keyInts, keyD] at h
      | inl x =>
        simp only [keyD, keyInts, Option.map_eq_some_iff] at h
        obtain ⟨ks', h1, rfl⟩ := h
        rw [List.map_cons, List.map_cons, keyInts_eq h1 t]
theorem leI_total (a b : Int) : (leI a b || leI b a) = true := by
  unfold leI
  simp only [Bool.or_eq_true, decide_eq_true_eq]
  omega
theorem leI_trans (a b c : Int) (h1 : leI a b = true) (h2 : leI b c = true) : leI a c = true := by
  unfold leI at *
  simp only [decide_eq_true_eq] at *
  omega
theorem leI_anti (a b : Int) (h1 : leI a b = true) (h2 : leI b a = true) : a = b := by
  unfold leI at *
  simp only [decide_eq_true_eq] at *
  omega
theorem sortI_the {ys ks : List Int} (hp : ys.Perm ks) (hs : ys.Pairwise (· ≤ ·)) : ys = sortI ks := by
  have h1 : ys.Pairwise (fun a b => leI a b = true) := hs.imp fun h => decide_eq_true h
  have h2 : (sortI ks).Pairwise (fun a b => leI a b = true) := List.pairwise_mergeSort leI_trans leI_total ks
  have h3 : ys.Perm (sortI ks) := hp.trans (List.mergeSort_perm ks leI).symm
  exact h3.eq_of_pairwise (fun a b _ _ => leI_anti a b) h1 h2
theorem leS_total (a b : Str) : (leS a b || leS b a) = true := by
  unfold leS
  simp only [Bool.or_eq_true, decide_eq_true_eq]
  exact Std.le_total
theorem leS_trans (a b c : Str) (h1 : leS a b = true) (h2 : leS b c = true) : leS a c = true := by
  unfold leS at *
  simp only [decide_eq_true_eq] at *
  exact Std.le_trans h1 h2
theorem leS_anti (a b : Str) (h1 : leS a b = true) (h2 : leS b a = true) : a = b := by
  unfold leS at *
  simp only [decide_eq_true_eq] at *
  have h := Std.le_antisymm h1 h2
  cases a
  cases b
  exact congrArg Str.mk (Array.toList_inj.mp h)
theorem ltCps_iff (x y : List Nat) : ltCps x y = decide (x < y) := by
  induction x generalizing y with
  | nil => cases y <;> simp [ltCps]
  | cons a x ih =>
    cases y with
    | nil => simp [ltCps]
    | cons b y =>
      simp only [ltCps, List.cons_lt_cons_iff, ih]
      by_cases h1 : a < b
      · simp [h1]
      · by_cases h2 : a = b
        · simp [h2]
        · have h3 : b < a := by omega
          simp [h1, h2, h3]
theorem rising_pw : ∀ (ys : List Str) (p : Str), risingS p ys = true → (p :: ys).Pairwise (fun a b => leS a b = true)
  | [], p, _ => List.pairwise_singleton ..
  | x :: ys, p, h => by
    simp only [risingS, Bool.and_eq_true, Bool.not_eq_true'] at h
    obtain ⟨h1, h2⟩ := h
    have ih := rising_pw ys x h2
    have hpx : leS p x = true := by
      unfold leS
      rw [ltCps_iff] at h1
      simp only [decide_eq_false_iff_not, decide_eq_true_eq] at *
      exact Std.not_lt.mp h1
    refine List.pairwise_cons.mpr ⟨fun y hy => ?_, ih⟩
    rcases List.mem_cons.mp hy with rfl | hy
    · exact hpx
    · exact leS_trans _ _ _ hpx ((List.pairwise_cons.mp ih).1 y hy)
theorem sortS_the {ys ks : List Str} (hp : ys.Perm ks) (hs : sortedS ys = true) : ys = sortS ks := by
  have h1 : ys.Pairwise (fun a b => leS a b = true) := by
    cases ys with
    | nil => exact .nil
    | cons x ys => exact rising_pw ys x hs
  have h2 : (sortS ks).Pairwise (fun a b => leS a b = true) := List.pairwise_mergeSort leS_trans leS_total ks
  have h3 : ys.Perm (sortS ks) := hp.trans (List.mergeSort_perm ks leS).symm
  exact h3.eq_of_pairwise (fun a b _ _ => leS_anti a b) h1 h2
section
variable {X : Cx} {W : WX}
theorem Reps.paired {K : PySem.W.Frag} {U : Addr → Prop} {H : Hp} : ∀ {vs : List V} {ds : List D}, Reps K U H vs ds → Paired (fun v d => Rep K U H v d) vs ds
  | _, _, .nil => .nil
  | _, _, .cons r t => .cons r (Reps.paired t)
theorem Reps.of_paired {K : PySem.W.Frag} {U : Addr → Prop} {H : Hp} : ∀ {vs : List V} {ds : List D}, Paired (fun v d => Rep K U H v d) vs ds → Reps K U H vs ds
  | _, _, .nil => .nil
  | _, _, .cons r t => .cons r (Reps.of_paired t)
def Paired.and {α β : Type} {R : α → β → Prop} {P : β → Prop} : ∀ {xs : List α} {ys : List β}, Paired R xs ys → (∀ y ∈ ys, P y) → Paired (fun x y => R x y ∧ P y) xs ys
  | _, _, .nil, _ => .nil
  | _, _, .cons r t, h => .cons ⟨r, h _ (List.mem_cons_self ..)⟩ (Paired.and t fun y hy => h y (List.mem_cons_of_mem _ hy))
theorem row_sorted : RowL X W .f (fun vs H Q => rSortData X.K vs H Q ∨ (∃ (a : Addr) (kvs : List (Key × V)) (ks : List Str), vs = [.ref a] ∧ Rd H a (.dK kvs) ∧ kvs.map (·.1) = ks.map Sum.inr ∧ ks.length < 64 ∧
    ∀ ys p, ys.Perm ks → sortedS ys = true → H p = none → Q (.ref p) (upd H p (.lst (ys.map V.str)))) ∨ ∃ (a : Addr) (kvs : List (Key × V)) (ks : List Int), vs = [.ref a] ∧ Rd H a (.dK kvs) ∧ kvs.map (·.1) = ks.map Sum.inl ∧ ks.length < 64 ∧
    ∀ (ys : List Int) (p : Addr), ys.Perm ks → ys.Pairwise (· ≤ ·) → H p = none → Q (.ref p) (upd H p (.lst (ys.map V.int)))) (one sortedF) := RowL.one fun σ U H v d Q hf r1 q => by
  cases d with
  | list ds =>
    obtain ⟨a, vs, rfl, h1, t1⟩ := r1.lst
    simp only [sortedF] at q
    split at q
    · rename_i hc
      refine .inl ⟨a, vs, ds, fun v d => Rep X.K U H v d ∧ d.plain = true, rfl, .inl h1, ⟨Paired.and t1.paired fun d hd => (fitD_ok d dpt (fitAll_mem hc.1 d hd)).1, fun v d h => h.1.dp h.2⟩, hc, fun ys p hy hp => ?_⟩
      exact q.lst hf (Reps.of_paired (Paired.mapP hy fun _ _ h => h.1)) p hp
    · exact q.elim
  | dict es =>
    simp only [sortedF] at q
    split at q
    · rename_i ks hk
      obtain ⟨a, vs, rfl, h1, t1⟩ := r1.dct (by
        cases es with
        | nil => rfl
        | cons p es =>
          obtain ⟨k, v⟩ := p
          cases k <;> first | rfl | (simp [keyStrs] at hk))
      split at q
      · rename_i hl
        refine .inr (.inl ⟨a, vs, ks, rfl, h1, keyStrs_eq hk t1, hl, fun ys p h2 h3 hp => ?_⟩)
        rw [sortS_the h2 h3]
        exact q.lst hf (Reps.of_strs _) p hp
      · exact q.elim
    · split at q
      · rename_i ks hk
        obtain ⟨a, vs, rfl, h1, t1⟩ := r1.dct (by
          cases es with
          | nil => rfl
          | cons p es =>
            obtain ⟨k, v⟩ := p
            cases k <;> first | rfl | (simp [keyInts] at hk))
        split at q
        · rename_i hl
          refine .inr (.inr ⟨a, vs, ks, rfl, h1, keyInts_eq hk t1, hl, fun ys p h2 h3 hp => ?_⟩)
          rw [sortI_the h2 h3]
          exact q.lst hf (Reps.of_ints _) p hp
        · exact q.elim
      · exact q.elim
  | _ => exact q.elim
end
/-! ## isinstance -/
/-- a built-in class's name -/
def tyName : D → String
  | .none => "NoneType"
  | .bool _ => "bool"
  | .int _ => "int"
  | .str _ => "str"
  | .list _ => "list"
  | .tuple _ => "tuple"
  | .dict _ => "dict"
def isIns : D → Bool
  | .dict es => insB es
  | _ => false
theorem Rep.ty {K : PySem.W.Frag} {U : Addr → Prop} {H : Hp} {v : V} {d : D} (r : Rep K U H v d) (hi : isIns d = false) : TyX K H v (.type (tyName d)) := by
  have frz : ∀ {a o}, Rd H a o → H a = some o ∨ ∃ q, H a = some (.frz q o) := fun h => h
  cases r with
  | non => exact .base .non
  | bl b => exact .base (.bl b)
  | int i => exact .base (.int i)
  | str x => exact .base (.str x)
  | tup h _ =>
    rcases h with ⟨_, h⟩ | ⟨o, is, k, ⟨h1, h2⟩, _, h3⟩
    · rcases frz h.rd with h | ⟨q, h⟩
      · exact .base (.tup h)
      · exact .fTuple h
    · exact .kTuple h1 h2
  | lst _ h _ =>
    rcases frz h with h | ⟨q, h⟩
    · exact .base (.lst h)
    · exact .base (.frz h)
  | dct _ h _ =>
    rcases frz h with h | ⟨q, h⟩
    · exact .base (.dK h)
    · exact .fDict h
  | ins _ _ _ _ => cases hi
theorem BRep.ty {K : PySem.W.Frag} {U : Addr → Prop} {H : Hp} {v : V} {d : D} (r : BRep K U H v d) (hi : isIns d = false) : TyX K H v (.type (tyName d)) := Rep.ty r.rep0 hi
/-- what isinstance says, of the built-in classes -/
def isiB : D → String → Bool
  | .none, c => c == "NoneType" || c == "object"
  | .bool _, c => c == "bool" || c == "int" || c == "object"
  | .int _, c => c == "int" || c == "object"
  | .str _, c => c == "str" || c == "object"
  | .list _, c => c == "list" || c == "object"
  | .tuple _, c => c == "tuple" || c == "object"
  | .dict _, c => c == "dict" || c == "object"
def isiO (d : D) (c : String) : Out D := if isIns d = true then .stuck else .ok (.bool (isiB d c))
def isiC : List String := ["int", "bool", "str", "list", "tuple", "dict"]
theorem kitAll : ∀ t ∈ ["NoneType", "bool", "int", "str", "list", "tuple", "dict"], ∀ c ∈ isiC, ∃ b, kitB t c = some b := by decide +kernel
theorem kit_isi (d : D) {c : String} (hc : c ∈ isiC) : kitB (tyName d) c = some (isiB d c) := by
  have h : ∀ c ∈ isiC, kitB "NoneType" c = some (c == "NoneType" || c == "object") ∧ kitB "bool" c = some (c == "bool" || c == "int" || c == "object") ∧ kitB "int" c = some (c == "int" || c == "object") ∧ kitB "str" c = some (c == "str" || c == "object") ∧
    kitB "list" c = some (c == "list" || c == "object") ∧ kitB "tuple" c = some (c == "tuple" || c == "object") ∧ kitB "dict" c = some (c == "dict" || c == "object") := by decide +kernel
  obtain ⟨h1, h2, h3, h4, h5, h6, h7⟩ := h c hc
  cases d <;> assumption
section
variable {X : Cx} {H0 : Ent} {W : WX}
theorem de_isi {p p2 pos : Pos} {e : Expr} {c : Str} {T : String} {f : Rho → Out D} (hg : Gl X "isinstance") (hm : X.mg "isinstance" = none) (hgc : Gl X c) (hmc : X.mg c = none) (hvc : bootBuiltins c = some (.type T)) (hnc : c ≠ "__name__") (hdc : (c == ("__debug__" : Str)) = false)
    (hT : T ∈ isiC) (he : DE X H0 W .b e f) (hs : starEach [e, .Name c p2] X.env = [(false, eval e X.env), (false, eval (.Name c p2) X.env)]) (hs2 : starEach [.Name c p2] X.env = [(false, eval (.Name c p2) X.env)]) :
    DE X H0 W .v (.Call (.Name "isinstance" p) [e, .Name c p2] [] pos) fun ρ => (f ρ).bind fun d => isiO d T := by
  have hty : PE X (.Name c p2) (fun σ H Q => Q (.ty T) H) := ⟨fun pins s σ H Q I h => ld_blt I hgc hmc hvc ⟨.ty T, H, I, rfl, h⟩ hnc hdc⟩
  have ha : PA X [e, .Name c p2] (tCons (tD X H0 W .b f) (tCons (fun σ H Q => Q (.ty T) H) tNil)) := pa_cons he (pa_cons hty pa_nil hs2) (by rw [hs, hs2])
  refine PE.imp (pe_callB call_isi hg hm (by rfl) ha (by decide) (by decide) (by rw [hs, hs2]) (by rw [hs2]; rfl)) fun σ H Q h => ?_
  have h2 := tD.bind1 (k := fun d => isiO d T) h
  refine h2.mono fun v H1 ⟨U, x, hf, r1, q⟩ => ?_
  unfold isiO at q
  split at q
  · exact q.elim
  · rename_i hi
    exact ⟨v, .ty T, .type (tyName x), .type T, isiB x T, rfl, .ty T, r1.ty (by simpa using hi), kit_ty (kit_isi x hT), q.val (.bl _)⟩
end
end Mp
namespace Mp
open PySem PySem.Spec PyProof.Rows L2
/-! ## what a loop walks, by data -/
/-- what may have happened since: b: nothing was written to; else: only to what is owned -/
def Kb (b : Bool) (U : Addr → Prop) (H : Hp) (U' : Addr → Prop) (H' : Hp) : Prop := (∀ p, H' p = none → ¬ U' p) ∧ match b with
  | true => (∀ a, U' a → U a ∨ H a = none) ∧ Same H H'
  | false => Kp U U' H H'
/-- an item: if w, it may be a tuple that is taken apart at once -/
inductive RepI (K : PySem.W.Frag) (U : Addr → Prop) (H : Hp) : Bool → V → D → Prop
  | rep {w : Bool} {v : V} {d : D} : Rep K U H v d → RepI K U H w v d
  | tup {a : Addr} {xs : List V} {ds : List D} : SqT K H a xs → Reps K U H xs ds → RepI K U H true (.ref a) (.tuple ds)
def tpE : Expr → Bool
  | .Tuple .. => true
  | _ => false
def JD (K : PySem.W.Frag) (w : Bool) (Rl : (Addr → Prop) → Hp → Prop) (J : It) (ds : List D) : Prop :=
  ∀ U' H', Rl U' H' → J.stop ds.length H' ∧ ∀ i d, ds[i]? = some d → J.go i H' ∧ ∀ x H'', J.yld i H' x H'' → Same H' H'' ∧ RepI K U' H'' w x d
def PostI (X : Cx) (W : WX) (w b : Bool) (σ : L2.St) (H : Hp) (U : Addr → Prop) (R : It → Hp → Prop) : Out (List D) → Prop
  | .ok ds => ∀ J H', Same H H' → JD X.K w (Kb b U H') J ds → R J H'
  | .exc c fs => ∀ cls dd H', Same H H' → ExR X.mg X.K H' c fs cls dd → W cls dd σ H'
  | .stuck => False
def tDI (X : Cx) (H0 : Ent) (W : WX) (w b : Bool) (f : Rho → Out (List D)) : TI := fun σ H R => ∃ ρ U, Pt X.K H0 σ H ρ U ∧ PostI X W w b σ H U R (f ρ)
abbrev DI (X : Cx) (H0 : Ent) (W : WX) (b : Bool) (tg e : Expr) (f : Rho → Out (List D)) : Prop := PI X tg e (tDI X H0 W (tpE tg) b f)
section
variable {X : Cx} {H0 : Ent} {W : WX}
theorem PI.imp {tg e : Expr} {t t' : TI} (h : PI X tg e t) (i : ∀ σ H R, t' σ H R → t σ H R) : PI X tg e t' := ⟨fun pins s σ H R I q => h.run pins s σ H R I (i σ H R q)⟩
theorem PI.or {tg e : Expr} {t t' : TI} (h : PI X tg e t) (h' : PI X tg e t') : PI X tg e fun σ H R => t σ H R ∨ t' σ H R := ⟨fun pins s σ H R I q => q.elim (h.run pins s σ H R I) (h'.run pins s σ H R I)⟩
theorem Kb.seq {K : PySem.W.Frag} {b : Bool} {U U' : Addr → Prop} {H H' : Hp} (k : Kb b U H U' H') {vs : List V} {ds : List D} (r : Reps K U H vs ds) : Reps K U' H' vs ds := by
  cases b with
  | true =>
    obtain ⟨_, e, s⟩ := k
    exact r.mono ⟨fun a o z _ => s a o z, e⟩
  | false => exact r.mono k.2
theorem Kb.rd {K : PySem.W.Frag} {b : Bool} {U U' : Addr → Prop} {H H' : Hp} (k : Kb b U H U' H') {a : Addr} {o : HO} (hb : b = false → ¬ U a) (r : Rd H a o) : Rd H' a o := by
  cases b with
  | true =>
    obtain ⟨_, e, s⟩ := k
    rcases r with r | ⟨q, r⟩
    · exact .inl (s _ _ r)
    · exact .inr ⟨q, s _ _ r⟩
  | false => exact (Kp.rd k.2 (hb rfl) r).2
theorem rd_sqL {K : PySem.W.Frag} {H : Hp} {a : Addr} {xs : List V} (h : Rd H a (.lst xs)) : SqL K H a xs := .inl h
/-- the value at a list's place, in mode v or b -/
theorem repM_lst {K : PySem.W.Frag} {U : Addr → Prop} {H H' : Hp} {v : V} {ds : List D} {b : Bool} (r : RepM K U H H' v (.list ds) (bMd b)) : ∃ a xs, v = .ref a ∧ (b = false → ¬ U a) ∧ Rd H' a (.lst xs) ∧ Reps K U H' xs ds := by
  cases b with
  | true =>
    obtain ⟨a, xs, e, h1, h2⟩ := BRep.lst r
    exact ⟨a, xs, e, (fun z => nomatch z), h1, h2⟩
  | false =>
    have r : Rep K U H' v (.list ds) := r
    cases r with
    | lst h1 h2 h3 => exact ⟨_, _, rfl, fun _ => h1, h2, h3⟩
theorem repM_tup {K : PySem.W.Frag} {U : Addr → Prop} {H H' : Hp} {v : V} {ds : List D} {b : Bool} (r : RepM K U H H' v (.tuple ds) (bMd b)) : ∃ a xs, v = .ref a ∧ ((¬ U a ∧ TupN H' a xs) ∨ WrT K a xs) ∧ Reps K U H' xs ds := by
  have r : Rep K U H' v (.tuple ds) := by
    cases b with
    | true =>
      rcases r with r | ⟨_, _, _, z⟩
      · exact r
      · exact z.elim
    | false => exact r
  cases r with
  | tup h r => exact ⟨_, _, rfl, h, r⟩
theorem repM_str {K : PySem.W.Frag} {U : Addr → Prop} {H H' : Hp} {v : V} {z : Str} {b : Bool} (r : RepM K U H H' v (.str z) (bMd b)) : v = .str z := by
  cases b with
  | true => exact BRep.str r
  | false => exact BRep.str (.inl r)
theorem jd_list {K : PySem.W.Frag} {w b : Bool} {U : Addr → Prop} {H : Hp} {a : Addr} {xs : List V} {ds : List D} (hb : b = false → ¬ U a) (h : Rd H a (.lst xs)) (r : Reps K U H xs ds) : JD K w (Kb b U H) (Itl K a) ds := fun U' H' k => by
  have h' : SqL K H' a xs := .inl (k.rd (K := K) hb h)
  have r' := k.seq r
  refine ⟨⟨xs, h', by rw [r'.length]; exact Nat.le_refl _⟩, fun i d hd => ?_⟩
  obtain ⟨x, hx, rx⟩ := r'.get hd
  refine ⟨⟨xs, x, h', hx⟩, fun y H'' ⟨e, hy⟩ => ?_⟩
  subst e
  have e2 := hy xs h'
  rw [hx] at e2
  cases e2
  exact ⟨Same.refl _, .rep rx⟩
theorem kb_tup {K : PySem.W.Frag} {b : Bool} {U U' : Addr → Prop} {H H' : Hp} {a : Addr} {xs : List V} (k : Kb b U H U' H') (h : (¬ U a ∧ TupN H a xs) ∨ WrT K a xs) : SqT K H' a xs := by
  rcases h with ⟨h1, h2⟩ | h
  · exact .inl (k.rd (K := K) (fun _ => h1) h2.rd)
  · exact h.sq H'
theorem jd_tup {K : PySem.W.Frag} {w b : Bool} {U : Addr → Prop} {H : Hp} {a : Addr} {xs : List V} {ds : List D} (h : (¬ U a ∧ TupN H a xs) ∨ WrT K a xs) (r : Reps K U H xs ds) : JD K w (Kb b U H) (Itt K a) ds := fun U' H' k => by
  have h' : SqT K H' a xs := kb_tup k h
  have r' := k.seq r
  refine ⟨⟨xs, h', by rw [r'.length]; exact Nat.le_refl _⟩, fun i d hd => ?_⟩
  obtain ⟨x, hx, rx⟩ := r'.get hd
  refine ⟨⟨xs, x, h', hx⟩, fun y H'' ⟨e, hy⟩ => ?_⟩
  subst e
  have e2 := hy xs h'
  rw [hx] at e2
  cases e2
  exact ⟨Same.refl _, .rep rx⟩
def strItems (z : Str) : List D := z.cps.toList.map fun c => .str ⟨#[c]⟩
theorem jd_str {K : PySem.W.Frag} {w b : Bool} {U : Addr → Prop} {H : Hp} (z : Str) : JD K w (Kb b U H) (Its z) (strItems z) := fun U' H' k => by
  refine ⟨show z.cps.size ≤ _ by unfold strItems; rw [List.length_map, Array.length_toList]; exact Nat.le_refl _, fun i d hd => ?_⟩
  unfold strItems at hd
  rw [List.getElem?_map, Array.getElem?_toList] at hd
  cases e : z.cps[i]? with
  | none => rw [e] at hd; cases hd
  | some c =>
    rw [e] at hd
    cases hd
    refine ⟨(Array.getElem?_eq_some_iff.mp e).1, fun y H'' ⟨e1, c', e2, e3⟩ => ?_⟩
    subst e1
    rw [e] at e2
    cases e2
    rw [e3]
    exact ⟨Same.refl _, .rep (.str _)⟩
def itemsD : D → Out (List D)
  | .list ds => .ok ds
  | .tuple ds => .ok ds
  | .str z => .ok (strItems z)
  | _ => .stuck
theorem di_plain {b : Bool} {tg e : Expr} {f : Rho → Out D} (h : DE X H0 W (bMd b) e f) : DI X H0 W b tg e fun ρ => (f ρ).bind itemsD :=
  PI.imp (PI.or (pi_list h) (PI.or (pi_tup h) (pi_str h))) fun σ H R ⟨ρ, U, P, q⟩ => by
    replace q : PostI X W (tpE tg) b σ H U R ((f ρ).bind itemsD) := q
    cases ef : f ρ with
    | exc c fs =>
      rw [ef] at q
      exact .inl ⟨ρ, U, P, by rw [ef]; exact q⟩
    | stuck =>
      rw [ef] at q
      exact q.elim
    | ok d =>
      rw [ef] at q
      cases d with
      | list ds =>
        refine .inl ⟨ρ, U, P, ?_⟩
        rw [ef]
        intro v H' s r
        obtain ⟨a, xs, rfl, hb, h1, t1⟩ := repM_lst r
        exact ⟨a, rfl, ⟨xs, .inl h1⟩, q _ H' s (jd_list hb h1 t1)⟩
      | tuple ds =>
        refine .inr (.inl ⟨ρ, U, P, ?_⟩)
        rw [ef]
        intro v H' s r
        obtain ⟨a, xs, rfl, h1, t1⟩ := repM_tup r
        have h2 : SqT X.K H' a xs := h1.elim (fun q => .inl q.2.rd) fun q => q.sq H'
        exact ⟨a, rfl, ⟨xs, h2⟩, q _ H' s (jd_tup h1 t1)⟩
      | str z =>
        refine .inr (.inr ⟨ρ, U, P, ?_⟩)
        rw [ef]
        intro v H' s r
        obtain rfl := repM_str r
        exact ⟨z, rfl, q _ H' s (jd_str z)⟩
      | _ => exact q.elim
/-! ### range -/
def rangeI (lo : Int) (n : Nat) : List D := (List.range n).map fun (i : Nat) => .int (lo + (i : Int))
theorem jd_range {K : PySem.W.Frag} {w b : Bool} {U : Addr → Prop} {H : Hp} (lo : Int) (n : Nat) : JD K w (Kb b U H) (Itr lo n) (rangeI lo n) := fun U' H' k => by
  refine ⟨show n ≤ _ by unfold rangeI; rw [List.length_map, List.length_range]; exact Nat.le_refl _, fun i d hd => ?_⟩
  unfold rangeI at hd
  rw [List.getElem?_map] at hd
  by_cases hi : i < n
  · rw [List.getElem?_range hi] at hd
    cases hd
    refine ⟨hi, fun y H'' ⟨e1, e2⟩ => ?_⟩
    subst e1 e2
    exact ⟨Same.refl _, .rep (.int _)⟩
  · rw [List.getElem?_eq_none (by simpa using hi)] at hd
    cases hd
def okR (i : Int) : Bool := decide (-(2 ^ 62) ≤ i) && decide (i < 2 ^ 62)
theorem okR_ok {i : Int} (h : okR i = true) : -(2 ^ 62) ≤ i ∧ i < 2 ^ 62 := by
  unfold okR at h
  simp only [Bool.and_eq_true, decide_eq_true_eq] at h
  exact h
def range1D : List D → Out (List D)
  | [.int j] => if okR j = true then .ok (rangeI 0 j.toNat) else .stuck
  | _ => .stuck
def range2D : List D → Out (List D)
  | [.int i, .int j] => if okR i = true ∧ okR j = true then .ok (rangeI i (j - i).toNat) else .stuck
  | _ => .stuck
theorem di_args {b : Bool} {tg e : Expr} {ta : TA → TI} {f : Rho → Out (List D)} {g : List D → Out (List D)} (h : PI X tg e (ta (tDA X H0 W b f)))
    (hta : ∀ σ H R (t : List V → Hp → Prop), tDA X H0 W b f σ H t → (∀ vs H1, t vs H1 → ta (fun _ _ q => q vs H1) σ H R) → ta (tDA X H0 W b f) σ H R)
    (row : ∀ σ U H vs ds R, (∀ p, H p = none → ¬ U p) → RepL X.K U H vs ds b → PostI X W (tpE tg) b σ H U R (g ds) → ta (fun _ _ q => q vs H) σ H R)
    (hind : ∀ σ H H1 R vs, ta (fun _ _ q => q vs H1) σ H1 R → ta (fun _ _ q => q vs H1) σ H R) : DI X H0 W b tg e fun ρ => (f ρ).bind g :=
  PI.imp h fun σ H R ⟨ρ, U, P, q⟩ => by
    replace q : PostI X W (tpE tg) b σ H U R ((f ρ).bind g) := q
    refine hta σ H R (fun vs H1 => ta (fun _ _ q => q vs H1) σ H R) ⟨ρ, U, P, ?_⟩ fun vs H1 h => h
    revert q
    cases ef : f ρ with
    | exc c fs => exact fun q => q
    | stuck => exact fun q => q
    | ok ds =>
      intro q vs H1 s1 r1
      refine hind σ H H1 R vs (row σ U H1 vs ds R (fun p hp => (P.same s1).fresh hp) r1 ?_)
      replace q : PostI X W (tpE tg) b σ H U R (g ds) := q
      revert q
      cases g ds with
      | exc c fs => exact fun q cls dd H' s' x => q cls dd H' (s1.trans s') x
      | stuck => exact fun q => q
      | ok es => exact fun q J H' s' j => q J H' (s1.trans s') j
theorem tDA.mono {b : Bool} {f : Rho → Out (List D)} {σ : L2.St} {H : Hp} {Q Q' : List V → Hp → Prop} (h : tDA X H0 W b f σ H Q) (i : ∀ v H', Q v H' → Q' v H') : tDA X H0 W b f σ H Q' := by
  obtain ⟨ρ, U, P, q⟩ := h
  refine ⟨ρ, U, P, ?_⟩
  revert q
  cases f ρ with
  | ok d => exact fun q v H' s r => i v H' (q v H' s r)
  | exc c fs => exact fun q => q
  | stuck => exact fun q => q
theorem repL_ints1 {K : PySem.W.Frag} {U : Addr → Prop} {H : Hp} {vs : List V} {i : Int} : ∀ {b : Bool}, RepL K U H vs [.int i] b → vs = [.int i]
  | true, r => by
    obtain ⟨v, rfl, r1⟩ := breps1 r
    rw [r1.int]
  | false, r => by
    have r : Reps K U H vs [.int i] := r
    cases r with
    | cons r t =>
      cases r
      cases t
      rfl
theorem repL_ints2 {K : PySem.W.Frag} {U : Addr → Prop} {H : Hp} {vs : List V} {i j : Int} : ∀ {b : Bool}, RepL K U H vs [.int i, .int j] b → vs = [.int i, .int j]
  | true, r => by
    obtain ⟨v, u, rfl, r1, r2⟩ := breps2 r
    rw [r1.int, r2.int]
  | false, r => by
    obtain ⟨v, u, rfl, r1, r2⟩ := reps2 (show Reps K U H vs [.int i, .int j] from r)
    cases r1
    cases r2
    rfl
theorem di_range1 {b : Bool} {tg a : Expr} {f : Rho → Out (List D)} {p pos : Pos} (hg : Gl X "range") (hm : X.mg "range" = none) (ha : DA X H0 W b [a] f) (hs : starEach [a] X.env = [(false, eval a X.env)]) : DI X H0 W b tg (.Call (.Name "range" p) [a] [] pos) fun ρ => (f ρ).bind range1D :=
  di_args (ta := iRng1) (pi_range1 hg hm ha hs) (fun σ H R t h i => tDA.mono h i) (fun σ U H vs ds R hf r q => by
    unfold range1D at q
    split at q
    · split at q
      · rename_i hj
        exact ⟨_, repL_ints1 r, (okR_ok hj).1, (okR_ok hj).2, q _ H (Same.refl H) (jd_range 0 _)⟩
      · exact q.elim
    · exact q.elim) fun σ H H1 R vs h => h
theorem di_range2 {b : Bool} {tg a a2 : Expr} {f : Rho → Out (List D)} {p pos : Pos} (hg : Gl X "range") (hm : X.mg "range" = none) (ha : DA X H0 W b [a, a2] f) (hs : starEach [a, a2] X.env = [(false, eval a X.env), (false, eval a2 X.env)]) (hs2 : starEach [a2] X.env = [(false, eval a2 X.env)]) :
    DI X H0 W b tg (.Call (.Name "range" p) [a, a2] [] pos) fun ρ => (f ρ).bind range2D :=
  di_args (ta := iRng2) (pi_range2 hg hm ha hs hs2) (fun σ H R t h i => tDA.mono h i) (fun σ U H vs ds R hf r q => by
    unfold range2D at q
    split at q
    · split at q
      · rename_i hj
        exact ⟨_, _, repL_ints2 r, ⟨(okR_ok hj.1).1, (okR_ok hj.1).2, (okR_ok hj.2).1, (okR_ok hj.2).2⟩, q _ H (Same.refl H) (jd_range _ _)⟩
      · exact q.elim
    · exact q.elim) fun σ H H1 R vs h => h
/-! ### zip, enumerate -/
def zipI (xs ys : List D) : List D := (xs.zip ys).map fun p => .tuple [p.1, p.2]
theorem zipI_get {xs ys : List D} {i : Nat} {d : D} (h : (zipI xs ys)[i]? = some d) : ∃ x y, xs[i]? = some x ∧ ys[i]? = some y ∧ d = .tuple [x, y] := by
  unfold zipI at h
  rw [List.getElem?_map] at h
  cases e : (xs.zip ys)[i]? with
  | none => rw [e] at h; cases h
  | some p =>
    rw [e] at h
    cases h
    obtain ⟨h1, h2⟩ := List.getElem?_zip_eq_some.mp e
    exact ⟨_, _, h1, h2, rfl⟩
theorem zipI_length (xs ys : List D) : (zipI xs ys).length = min xs.length ys.length := by
  unfold zipI
  rw [List.length_map, List.length_zip]
theorem rep_pair {K : PySem.W.Frag} {U : Addr → Prop} {H : Hp} {T : Addr} {x y : V} {dx dy : D} (hT : H T = none) (r1 : Rep K U H x dx) (r2 : Rep K U H y dy) : Same H (upd H T (.tup [x, y])) ∧ RepI K U (upd H T (.tup [x, y])) true (.ref T) (.tuple [dx, dy]) :=
  ⟨same_new hT, .tup (.inl (.inl upd_same)) (.cons (r1.mono (Kp.same (same_new hT))) (.cons (r2.mono (Kp.same (same_new hT))) .nil))⟩
theorem jd_zipL {K : PySem.W.Frag} {b : Bool} {U : Addr → Prop} {H : Hp} {a a2 : Addr} {xs ys : List V} {ds es : List D} (hb : b = false → ¬ U a) (h : Rd H a (.lst xs)) (r : Reps K U H xs ds) (hb2 : b = false → ¬ U a2) (h2 : Rd H a2 (.lst ys)) (r2 : Reps K U H ys es) :
    JD K true (Kb b U H) (Itz K a a2) (zipI ds es) := fun U' H' k => by
  have h' : SqL K H' a xs := .inl (k.rd (K := K) hb h)
  have h2' : SqL K H' a2 ys := .inl (k.rd (K := K) hb2 h2)
  have r' := k.seq r
  have r2' := k.seq r2
  refine ⟨⟨xs, ys, h', h2', ?_⟩, fun i d hd => ?_⟩
  · rw [r'.length, r2'.length, zipI_length]
    omega
  · obtain ⟨dx, dy, e1, e2, rfl⟩ := zipI_get hd
    obtain ⟨x, hx, rx⟩ := r'.get e1
    obtain ⟨y, hy, ry⟩ := r2'.get e2
    refine ⟨⟨xs, ys, x, y, h', h2', hx, hy⟩, fun v H'' ⟨T, x', y', e3, hT, e4, e5, e6⟩ => ?_⟩
    have e5 := e5 xs h'
    have e6 := e6 ys h2'
    rw [hx] at e5
    rw [hy] at e6
    cases e5
    cases e6
    rw [e3, e4]
    exact rep_pair hT rx ry
theorem jd_zipT {K : PySem.W.Frag} {b : Bool} {U : Addr → Prop} {H : Hp} {a a2 : Addr} {xs ys : List V} {ds es : List D} (h : (¬ U a ∧ TupN H a xs) ∨ WrT K a xs) (r : Reps K U H xs ds) (h2 : (¬ U a2 ∧ TupN H a2 ys) ∨ WrT K a2 ys) (r2 : Reps K U H ys es) :
    JD K true (Kb b U H) (RZ.ItzT K a a2) (zipI ds es) := fun U' H' k => by
  have h' : SqT K H' a xs := kb_tup k h
  have h2' : SqT K H' a2 ys := kb_tup k h2
  have r' := k.seq r
  have r2' := k.seq r2
  refine ⟨⟨xs, ys, h', h2', ?_⟩, fun i d hd => ?_⟩
  · rw [r'.length, r2'.length, zipI_length]
    omega
  · obtain ⟨dx, dy, e1, e2, rfl⟩ := zipI_get hd
    obtain ⟨x, hx, rx⟩ := r'.get e1
    obtain ⟨y, hy, ry⟩ := r2'.get e2
    refine ⟨⟨xs, ys, x, y, h', h2', hx, hy⟩, fun v H'' ⟨T, x', y', e3, hT, e4, e5, e6⟩ => ?_⟩
    have e5 := e5 xs h'
    have e6 := e6 ys h2'
    rw [hx] at e5
    rw [hy] at e6
    cases e5
    cases e6
    rw [e3, e4]
    exact rep_pair hT rx ry
def zipD : List D → Out (List D)
  | [.list xs, .list ys] => .ok (zipI xs ys)
  | [.tuple xs, .tuple ys] => .ok (zipI xs ys)
  | _ => .stuck
def enumI (xs : List D) : List D := xs.zipIdx.map fun p => .tuple [.int (p.2 : Nat), p.1]
def enumD : List D → Out (List D)
  | [.list xs] => .ok (enumI xs)
  | _ => .stuck
theorem repL_two {K : PySem.W.Frag} {U : Addr → Prop} {H : Hp} {vs : List V} {d e : D} : ∀ {b : Bool}, RepL K U H vs [d, e] b → ∃ v u, vs = [v, u] ∧ RepM K U H H v d (bMd b) ∧ RepM K U H H u e (bMd b)
  | true, r => breps2 r
  | false, r => reps2 r
theorem repL_one {K : PySem.W.Frag} {U : Addr → Prop} {H : Hp} {vs : List V} {d : D} : ∀ {b : Bool}, RepL K U H vs [d] b → ∃ v, vs = [v] ∧ RepM K U H H v d (bMd b)
  | true, r => breps1 r
  | false, r => by
    have r : Reps K U H vs [d] := r
    cases r with
    | cons r1 t =>
      cases t
      exact ⟨_, rfl, r1⟩
theorem di_zip {b : Bool} {e e2 : Expr} {f : Rho → Out (List D)} {p pos tpos : Pos} {elts : List Expr} {kk : Nat} (hg : Gl X "zip") (hm : X.mg "zip" = none) (ha : DA X H0 W b [e, e2] f)
    (hs : starEach [e, e2] X.env = (false, eval e X.env) :: starEach [e2] X.env) (hpl : (backTo pos (starEach [e2] X.env)).any (·.1) = false) : DI X H0 W b (.Tuple elts kk tpos) (.Call (.Name "zip" p) [e, e2] [] pos) fun ρ => (f ρ).bind zipD :=
  di_args (ta := RZ.iZipA X.K) (RZ.pi_zipA hg hm ha hs hpl) (fun σ H R t h i => tDA.mono h i) (fun σ U H vs ds R hf r q => by
    unfold zipD at q
    split at q
    · obtain ⟨v, u, rfl, r1, r2⟩ := repL_two r
      obtain ⟨a, xs, rfl, h1, h2, h3⟩ := repM_lst r1
      obtain ⟨a2, ys, rfl, h4, h5, h6⟩ := repM_lst r2
      exact ⟨a, a2, xs, ys, rfl, .inl ⟨.inl h2, .inl h5, q _ H (Same.refl H) (jd_zipL h1 h2 h3 h4 h5 h6)⟩⟩
    · obtain ⟨v, u, rfl, r1, r2⟩ := repL_two r
      obtain ⟨a, xs, rfl, h1, h2⟩ := repM_tup r1
      obtain ⟨a2, ys, rfl, h3, h4⟩ := repM_tup r2
      have s1 : SqT X.K H a xs := h1.elim (fun q => .inl q.2.rd) fun q => q.sq H
      have s2 : SqT X.K H a2 ys := h3.elim (fun q => .inl q.2.rd) fun q => q.sq H
      exact ⟨a, a2, xs, ys, rfl, .inr ⟨s1, s2, q _ H (Same.refl H) (jd_zipT h1 h2 h3 h4)⟩⟩
    · exact q.elim) fun σ H H1 R vs h => h
theorem jd_enum {K : PySem.W.Frag} {b : Bool} {U : Addr → Prop} {H : Hp} {a : Addr} {xs : List V} {ds : List D} (hb : b = false → ¬ U a) (h : Rd H a (.lst xs)) (r : Reps K U H xs ds) :
    JD K true (Kb b U H) (Ite K a) (enumI ds) := fun U' H' k => by
  have h' : SqL K H' a xs := .inl (k.rd (K := K) hb h)
  have r' := k.seq r
  refine ⟨⟨xs, h', ?_⟩, fun i d hd => ?_⟩
  · rw [r'.length]
    unfold enumI
    rw [List.length_map, List.length_zipIdx]
    exact Nat.le_refl _
  · unfold enumI at hd
    rw [List.getElem?_map, List.getElem?_zipIdx] at hd
    cases e : ds[i]? with
    | none => rw [e] at hd; cases hd
    | some dx =>
      rw [e] at hd
      obtain ⟨x, hx, rx⟩ := r'.get e
      refine ⟨⟨xs, x, h', hx⟩, fun v H'' ⟨T, x', e3, hT, e4, e5⟩ => ?_⟩
      have e5 := e5 xs h'
      rw [hx] at e5
      cases e5
      have hd' : PyData.tuple [.int ((0 + i : Nat) : Int), dx] = d := Option.some.inj hd
      rw [← hd', e3, e4, Nat.zero_add]
      exact rep_pair hT (.int _) rx
theorem di_enum {b : Bool} {e : Expr} {f : Rho → Out (List D)} {p pos tpos : Pos} {elts : List Expr} {kk : Nat} (hg : Gl X "enumerate") (hm : X.mg "enumerate" = none) (ha : DA X H0 W b [e] f)
    (hs : starEach [e] X.env = [(false, eval e X.env)]) : DI X H0 W b (.Tuple elts kk tpos) (.Call (.Name "enumerate" p) [e] [] pos) fun ρ => (f ρ).bind enumD :=
  di_args (ta := iEnum X.K) (pi_enum hg hm ha hs) (fun σ H R t h i => tDA.mono h i) (fun σ U H vs ds R hf r q => by
    unfold enumD at q
    split at q
    · obtain ⟨v, rfl, r1⟩ := repL_one r
      obtain ⟨a, xs, rfl, h1, h2, h3⟩ := repM_lst r1
      exact ⟨a, xs, rfl, .inl h2, q _ H (Same.refl H) (jd_enum h1 h2 h3)⟩
    · exact q.elim) fun σ H H1 R vs h => h
end
end Mp
namespace Mp
open PySem PySem.Spec PyProof.Rows L2
/-! ## slots written -/
theorem SlotR.mono {K : PySem.W.Frag} {H0 : Ent} {U U' : Addr → Prop} {H H' : Hp} (k : Kp U U' H H') (hu : ∀ a, U a → U' a) {v : Option (Option V)} : ∀ {r : Option (Option (Bool × D))}, (∀ d a, r = some (some (true, d)) → v = some (some (.ref a)) → ∀ o, H a = some o → H' a = some o) → SlotR K H0 U H v r → SlotR K H0 U' H' v r
  | some (some (false, d)), _, ⟨x, e, r⟩ => ⟨x, e, r.mono k⟩
  | some (some (true, d)), h, ⟨a, e, u, h0, r⟩ => ⟨a, e, hu a u, h0, r.mono k (h d a rfl e)⟩
  | some none, _, _ => trivial
  | none, _, _ => trivial
/-- slot i forgotten or given a value that nobody owns -/
theorem Pt.set {K : PySem.W.Frag} {H0 : Ent} {σ : L2.St} {H : Hp} {ρ : Rho} {U : Addr → Prop} (P : Pt K H0 σ H ρ U) (i : Nat) {v : V} {d : D} (r : Rep K U H v d) : Pt K H0 (σ.set i (some v)) H (ρ.set i (some (false, d))) U := by
  have hl : σ.length = ρ.length := P.len
  refine ⟨by rw [List.length_set, List.length_set]; exact hl, fun j => ?_, fun j k d e a h1 h2 h3 h4 => ?_, P.ud, P.bu, P.bd, P.s0⟩
  · by_cases hij : i = j
    · subst hij
      by_cases hi : i < ρ.length
      · rw [List.getElem?_set_self hi, List.getElem?_set_self (by rw [hl]; exact hi)]
        exact ⟨v, rfl, r⟩
      · rw [List.getElem?_eq_none (l := ρ.set i _) (by rw [List.length_set]; omega)]
        trivial
    · rw [List.getElem?_set_ne hij, List.getElem?_set_ne hij]
      exact P.sl j
  · have ne : ∀ {j : Nat} {d : D}, (ρ.set i (some (false, d)))[j]? = (ρ.set i (some (false, d)))[j]? := rfl
    have hj : i ≠ j := by
      rintro rfl
      by_cases hi : i < ρ.length
      · rw [List.getElem?_set_self hi] at h1
        cases h1
      · rw [List.getElem?_eq_none (by rw [List.length_set]; omega)] at h1
        cases h1
    have hk : i ≠ k := by
      rintro rfl
      by_cases hi : i < ρ.length
      · rw [List.getElem?_set_self hi] at h2
        cases h2
      · rw [List.getElem?_eq_none (by rw [List.length_set]; omega)] at h2
        cases h2
    rw [List.getElem?_set_ne hj] at h1 h3
    rw [List.getElem?_set_ne hk] at h2 h4
    exact P.ne j k d e a h1 h2 h3 h4
theorem Pt.clear {K : PySem.W.Frag} {H0 : Ent} {σ : L2.St} {H : Hp} {ρ : Rho} {U : Addr → Prop} (P : Pt K H0 σ H ρ U) (i : Nat) (o : Option V) : Pt K H0 (σ.set i o) H (ρ.set i none) U := by
  have hl : σ.length = ρ.length := P.len
  refine ⟨by rw [List.length_set, List.length_set]; exact hl, fun j => ?_, fun j k d e a h1 h2 h3 h4 => ?_, P.ud, P.bu, P.bd, P.s0⟩
  · by_cases hij : i = j
    · subst hij
      by_cases hi : i < ρ.length
      · rw [List.getElem?_set_self hi]
        trivial
      · rw [List.getElem?_eq_none (l := ρ.set i _) (by rw [List.length_set]; omega)]
        trivial
    · rw [List.getElem?_set_ne hij, List.getElem?_set_ne hij]
      exact P.sl j
  · have hj : i ≠ j := by
      rintro rfl
      by_cases hi : i < ρ.length
      · rw [List.getElem?_set_self hi] at h1
        cases h1
      · rw [List.getElem?_eq_none (by rw [List.length_set]; omega)] at h1
        cases h1
    have hk : i ≠ k := by
      rintro rfl
      by_cases hi : i < ρ.length
      · rw [List.getElem?_set_self hi] at h2
        cases h2
      · rw [List.getElem?_eq_none (by rw [List.length_set]; omega)] at h2
        cases h2
    rw [List.getElem?_set_ne hj] at h1 h3
    rw [List.getElem?_set_ne hk] at h2 h4
    exact P.ne j k d e a h1 h2 h3 h4
def wipeR (ρ : Rho) : List Nat → Rho
  | [] => ρ
  | v :: vs => (wipeR ρ vs).set v none
theorem Pt.wipe {K : PySem.W.Frag} {H0 : Ent} {σ : L2.St} {H : Hp} {ρ : Rho} {U : Addr → Prop} (P : Pt K H0 σ H ρ U) : ∀ vs, Pt K H0 (L2.wipe σ vs) H (wipeR ρ vs) U
  | [] => P
  | v :: vs => (P.wipe vs).clear v none
/-- the heap has changed, what is owned too: no slot owns what was written to -/
theorem Pt.kp {K : PySem.W.Frag} {H0 : Ent} {σ : L2.St} {H H' : Hp} {ρ : Rho} {U U' : Addr → Prop} (P : Pt K H0 σ H ρ U) (k : Kp U U' H H') (hu : ∀ a, U a → U' a) (hs : ∀ (i : Nat) (d : D) (a : Addr), ρ[i]? = some (some (true, d)) → σ[i]? = some (some (V.ref a)) → ∀ o, H a = some o → H' a = some o)
    (ud : ∀ a, U' a → ∃ o, H' a = some o ∧ MuO o) (s0 : Same H0.h H') : Pt K H0 σ H' ρ U' :=
  ⟨P.len, fun i => (P.sl i).mono k hu (fun d a h1 h2 => hs i d a h1 h2), P.ne, ud, fun a z => hu a (P.bu a z), P.bd, s0⟩
/-! ## targets -/
inductive Tg where
  | nm (i : Nat)
  | tup (ts : List Tg)
mutual
def bindT : Tg → D → Rho → Option Rho
  | .nm i, d, ρ => some (ρ.set i (some (false, d)))
  | .tup ts, d, ρ => match d with
    | .tuple ds => bindTs ts ds ρ
    | _ => none
def bindTs : List Tg → List D → Rho → Option Rho
  | [], [], ρ => some ρ
  | t :: ts, d :: ds, ρ => (bindT t d ρ).bind fun ρ' => bindTs ts ds ρ'
  | _, _, _ => none
end
mutual
def Tg.ixs : Tg → List Nat
  | .nm i => [i]
  | .tup ts => ixsL ts
def ixsL : List Tg → List Nat
  | [] => []
  | t :: ts => t.ixs ++ ixsL ts
end
def tDG (X : Cx) (H0 : Ent) (w : Bool) (t : Tg) : TG := fun v σ H Q => ∃ ρ U d ρ', Pt X.K H0 σ H ρ U ∧ RepI X.K U H w v d ∧ bindT t d ρ = some ρ' ∧ ∀ σ', Pt X.K H0 σ' H ρ' U → (∀ j, j ∉ t.ixs → σ'[j]? = σ[j]?) → Q σ' H
def tDGs (X : Cx) (H0 : Ent) (ts : List Tg) : TGs := fun vs σ H Q => ∃ ρ U ds ρ', Pt X.K H0 σ H ρ U ∧ Reps X.K U H vs ds ∧ bindTs ts ds ρ = some ρ' ∧ ∀ σ', Pt X.K H0 σ' H ρ' U → (∀ j, j ∉ ixsL ts → σ'[j]? = σ[j]?) → Q σ' H
abbrev DG (X : Cx) (H0 : Ent) (e : Expr) (t : Tg) : Prop := PG X e (tDG X H0 (tpE e) t)
abbrev DGs (X : Cx) (H0 : Ent) (e : List Expr) (t : List Tg) : Prop := PGs X e (tDGs X H0 t)
section
variable {X : Cx} {H0 : Ent}
theorem PG.imp {e : Expr} {t t' : TG} (h : PG X e t) (i : ∀ v σ H Q, t' v σ H Q → t v σ H Q) : PG X e t' := ⟨fun pins s σ H v u Q I r q => h.run pins s σ H v u Q I r (i v σ H Q q)⟩
theorem PGs.imp {e : List Expr} {t t' : TGs} (h : PGs X e t) (i : ∀ v σ H Q, t' v σ H Q → t v σ H Q) : PGs X e t' := ⟨fun pins s σ H v u Q I r q => h.run pins s σ H v u Q I r (i v σ H Q q)⟩
theorem dg_nm {i : Nat} {x : Str} {pos : Pos} (hN : X.N.Nodup) (hi : X.N[i]? = some x) (hx : Loc X.env.scope x) (hf : X.fn x = true ∨ X.env.scope.names.lookup x = some .local) : DG X H0 (.Name x pos) (.nm i) :=
  PG.imp (pg_name hN hi hx hf) fun v σ H Q ⟨ρ, U, d, ρ', P, r, hb, q⟩ => by
    replace r : RepI X.K U H false v d := r
    replace r : Rep X.K U H v d := by
      cases r
      assumption
    simp only [bindT, Option.some.injEq] at hb
    subst hb
    refine q _ (P.set i r) fun j hj => List.getElem?_set_ne (fun e => hj ?_)
    subst e
    exact List.mem_singleton_self _
theorem dgs_nil : DGs X H0 [] [] := PGs.imp pgs_nil fun v σ H Q ⟨ρ, U, ds, ρ', P, r, hb, q⟩ => by
  cases ds with
  | nil =>
    simp only [bindTs, Option.some.injEq] at hb
    subst hb
    cases r
    exact ⟨rfl, q σ P fun _ _ => rfl⟩
  | cons d ds => simp [bindTs] at hb
theorem dgs_cons {e : Expr} {es : List Expr} {t : Tg} {ts : List Tg} (h : DG X H0 e t) (hs : DGs X H0 es ts) (ha : (assignEach (e :: es) X.env).map (·.2) = assign e X.env :: (assignEach es X.env).map (·.2)) : DGs X H0 (e :: es) (t :: ts) :=
  PGs.imp (pgs_cons h hs ha) fun vs σ H Q ⟨ρ, U, ds, ρ', P, r, hb, q⟩ => by
    cases ds with
    | nil => simp [bindTs] at hb
    | cons d ds =>
      cases r with
      | cons r1 r2 =>
        simp only [bindTs, Option.bind_eq_some_iff] at hb
        obtain ⟨ρ1, b1, b2⟩ := hb
        refine ⟨_, _, rfl, ρ, U, d, ρ1, P, .rep r1, b1, fun σ1 P1 k1 => ⟨ρ1, U, ds, ρ', P1, r2, b2, fun σ2 P2 k2 => q σ2 P2 fun j hj => ?_⟩⟩
        simp only [ixsL, List.mem_append, not_or] at hj
        rw [k2 j hj.2, k1 j hj.1]
mutual
theorem bindT_len : ∀ {t : Tg} {d : D} {ρ ρ' : Rho}, bindT t d ρ = some ρ' → ρ'.length = ρ.length
  | .nm i, d, ρ, ρ', h => by
    simp only [bindT, Option.some.injEq] at h
    rw [← h, List.length_set]
  | .tup ts, d, ρ, ρ', h => by
    unfold bindT at h
    split at h
    · exact bindTs_lenR h
    · cases h
theorem bindTs_lenR : ∀ {ts : List Tg} {ds : List D} {ρ ρ' : Rho}, bindTs ts ds ρ = some ρ' → ρ'.length = ρ.length
  | [], [], _, _, h => by
    simp only [bindTs, Option.some.injEq] at h
    rw [h]
  | t :: ts, d :: ds, ρ, ρ', h => by
    simp only [bindTs, Option.bind_eq_some_iff] at h
    obtain ⟨ρ1, b1, b2⟩ := h
    rw [bindTs_lenR b2, bindT_len b1]
  | [], _ :: _, _, _, h => by simp [bindTs] at h
  | _ :: _, [], _, _, h => by simp [bindTs] at h
end
theorem bindTs_len : ∀ {ts : List Tg} {ds : List D} {ρ ρ' : Rho}, bindTs ts ds ρ = some ρ' → ts.length = ds.length
  | [], [], _, _, _ => rfl
  | t :: ts, d :: ds, ρ, ρ', h => by
    simp only [bindTs, Option.bind_eq_some_iff] at h
    obtain ⟨ρ1, _, b2⟩ := h
    rw [List.length_cons, List.length_cons, bindTs_len b2]
  | [], _ :: _, _, _, h => by simp [bindTs] at h
  | _ :: _, [], _, _, h => by simp [bindTs] at h
theorem dg_tup {es : List Expr} {k : Nat} {ts : List Tg} {pos : Pos} (hc : X.calm = true) (h : DGs X H0 es ts) (hn : (assignEach es X.env).length = ts.length) (hst : (assignEach es X.env).findIdx? (·.1) = none) : DG X H0 (.Tuple es k pos) (.tup ts) :=
  PG.imp (pg_tup hc h hn hst) fun v σ H Q ⟨ρ, U, d, ρ', P, r, hb, q⟩ => by
    unfold bindT at hb
    split at hb
    · rename_i ds
      have r2 : ∃ a xs, v = .ref a ∧ SqT X.K H a xs ∧ Reps X.K U H xs ds := by
        cases r with
        | rep r => exact BRep.tup (.inl r)
        | tup h1 t1 => exact ⟨_, _, rfl, h1, t1⟩
      obtain ⟨a, xs, rfl, h1, t1⟩ := r2
      exact ⟨a, xs, rfl, h1, by rw [t1.length, bindTs_len hb], ρ, U, ds, ρ', P, t1, hb, q⟩
    · cases hb
end
/-! ## comprehensions -/
def noxO {α : Type} : Out α → Out α
  | .exc _ _ => .stuck
  | x => x
def consO : Option D → List D → List D
  | some y, r => y :: r
  | none, r => r
def lcL (g : D → Out (Option D)) : List D → Out (List D)
  | [] => .ok []
  | d :: ds => (g d).bind fun o => (lcL g ds).bind fun r => .ok (consO o r)
/-- one turn -/
def turnD (t : Tg) (ft : Rho → Out Bool) (fe : Rho → Out D) (ρ : Rho) (d : D) : Out (Option D) := match bindT t d ρ with
  | none => .stuck
  | some ρ' => (ft ρ').bind fun b => if b = true then (fe ρ').bind fun y => .ok (some y) else .ok none
abbrev W0 : WX := fun _ _ _ _ => False
theorem wipe_get {σ σ' : L2.St} : ∀ {vs : List Nat}, σ.length = σ'.length → (∀ j, j ∉ vs → σ'[j]? = σ[j]?) → L2.wipe σ' vs = L2.wipe σ vs := by
  have key : ∀ (vs : List Nat) (σ : L2.St) (j : Nat), (L2.wipe σ vs)[j]? = if j ∈ vs then (if j < σ.length then some none else none) else σ[j]? := by
    intro vs
    induction vs with
    | nil => intro σ j; simp [L2.wipe]
    | cons v vs ih =>
      intro σ j
      unfold L2.wipe
      by_cases hv : v = j
      · subst hv
        simp only [List.mem_cons, true_or, if_true]
        by_cases hl : v < σ.length
        · rw [List.getElem?_set_self (by rw [L2.wipe_length]; exact hl), if_pos hl]
        · rw [List.getElem?_eq_none (by rw [List.length_set, L2.wipe_length]; omega), if_neg hl]
      · rw [List.getElem?_set_ne hv, ih σ j]
        have : (j ∈ v :: vs) ↔ j ∈ vs := by
          rw [List.mem_cons]
          exact ⟨fun h => h.resolve_left fun e => hv e.symm, .inr⟩
        simp only [this]
  intro vs hl h
  refine List.ext_getElem? fun j => ?_
  rw [key, key, hl]
  by_cases hj : j ∈ vs
  · simp [hj]
  · simp [hj, h j hj]
def PTsD (X : Cx) (H0 : Ent) (W : WX) (ifs : List Expr) (f : Rho → Out Bool) : Prop := PTs X ifs (tDT X H0 W f)
section
variable {X : Cx} {H0 : Ent} {W : WX}
theorem PTs.imp {e : List Expr} {t t' : TT} (h : PTs X e t) (i : ∀ σ H Q, t' σ H Q → t σ H Q) : PTs X e t' := ⟨fun pins s σ H Q I q => h.run pins s σ H Q I (i σ H Q q)⟩
theorem dts_nil : PTsD X H0 W [] fun _ => .ok true := PTs.imp pts_nil fun σ H Q ⟨ρ, U, P, q⟩ => q H (Same.refl H)
theorem dts_one {c : Expr} {f : Rho → Out Bool} (h : DT X H0 W c f) : PTsD X H0 W [c] f := pts_one h
end
section
variable {X : Cx} {H0 : Ent} {W : WX}
theorem lcL_split {g : D → Out (Option D)} {d : D} {ds r : List D} (h : lcL g (d :: ds) = .ok r) : ∃ o r', g d = .ok o ∧ lcL g ds = .ok r' ∧ r = consO o r' := by
  unfold lcL at h
  cases e : g d with
  | exc c fs => rw [e] at h; cases h
  | stuck => rw [e] at h; cases h
  | ok o =>
    rw [e] at h
    replace h : ((lcL g ds).bind fun r => Out.ok (consO o r)) = .ok r := h
    cases e2 : lcL g ds with
    | exc c fs => rw [e2] at h; cases h
    | stuck => rw [e2] at h; cases h
    | ok r' =>
      rw [e2] at h
      cases h
      exact ⟨o, r', rfl, rfl, rfl⟩
theorem turnD_split {t : Tg} {ft : Rho → Out Bool} {fe : Rho → Out D} {ρ : Rho} {d : D} {o : Option D} (h : turnD t ft fe ρ d = .ok o) : ∃ ρ' b, bindT t d ρ = some ρ' ∧ ft ρ' = .ok b ∧ (if b = true then ∃ y, fe ρ' = .ok y ∧ o = some y else o = none) := by
  unfold turnD at h
  split at h
  · cases h
  · rename_i ρ' e
    refine ⟨ρ', ?_⟩
    cases e2 : ft ρ' with
    | exc c fs => rw [e2] at h; cases h
    | stuck => rw [e2] at h; cases h
    | ok b =>
      rw [e2] at h
      refine ⟨b, e, rfl, ?_⟩
      cases b with
      | false =>
        cases h
        rfl
      | true =>
        replace h : ((fe ρ').bind fun y => Out.ok (some y)) = .ok o := h
        cases e3 : fe ρ' with
        | exc c fs => rw [e3] at h; cases h
        | stuck => rw [e3] at h; cases h
        | ok y =>
          rw [e3] at h
          cases h
          exact ⟨y, rfl, rfl⟩
/-- what holds ahead of turn i -/
structure LcW (K : PySem.W.Frag) (H0 : Ent) (σ : L2.St) (H1 : Hp) (ρ : Rho) (U : Addr → Prop) (L : Addr) (tot rest : List D) (H : Hp) : Prop where
  pt : Pt K H0 σ H ρ fun a => U a ∨ a = L
  sm : Same H1 H
  acc : ∃ vs ds, H L = some (.lst vs) ∧ Reps K (fun a => U a ∨ a = L) H vs ds ∧ tot = ds ++ rest
theorem lc_rule {w : Bool} {t : Tg} {fi : Rho → Out (List D)} {ft : Rho → Out Bool} {fe : Rho → Out D} {vs : List Nat} {σ : L2.St} {H : Hp} {Q : VK} (hvs : ∀ j ∈ t.ixs, j ∈ vs)
    (h : tD X H0 W .f (fun ρ => (fi ρ).bind fun ds => (noxO (lcL (turnD t ft fe (wipeR ρ vs)) ds)).bind lstD) σ H Q) :
    tLc (tDI X H0 W w true fi) (tDG X H0 w t) (tDT X H0 W0 ft) (tD X H0 W0 .v fe) vs σ H Q := by
  obtain ⟨ρ, U, P, q⟩ := h
  replace q : PostM X W .f σ H U Q ((fi ρ).bind fun ds => (noxO (lcL (turnD t ft fe (wipeR ρ vs)) ds)).bind lstD) := q
  refine ⟨ρ, U, P, ?_⟩
  revert q
  cases fi ρ with
  | exc c fs => exact fun q => q
  | stuck => exact fun q => q
  | ok ds =>
    intro q J H1 s1 jd L hL
    replace q : PostM X W .f σ H U Q ((noxO (lcL (turnD t ft fe (wipeR ρ vs)) ds)).bind lstD) := q
    cases etot : lcL (turnD t ft fe (wipeR ρ vs)) ds with
    | exc c fs =>
      rw [etot] at q
      exact q.elim
    | stuck =>
      rw [etot] at q
      exact q.elim
    | ok tot =>
      rw [etot] at q
      replace q : PostM X W .f σ H U Q (if tot.length ≤ sizeLine then .ok (.list tot) else .stuck) := q
      split at q
      case isFalse => exact q.elim
      rename_i hlen
      have P1 := P.same s1
      have hLU : ¬ U L := P1.fresh hL
      have k1 : Kp U (fun a => U a ∨ a = L) H1 (upd H1 L (.lst [])) := ⟨fun a o e _ => same_new hL a o e, fun a z => z.imp id fun e => by rw [e]; exact hL⟩
      have P2 : Pt X.K H0 (L2.wipe σ vs) (upd H1 L (.lst [])) (wipeR ρ vs) fun a => U a ∨ a = L := by
        refine (P1.wipe vs).kp k1 (fun a z => .inl z) (fun i d a _ _ o e => same_new hL a o e) (fun a z => ?_) (P1.s0.trans (same_new hL))
        rcases z with z | rfl
        · obtain ⟨o, e, m⟩ := P1.ud a z
          exact ⟨o, same_new hL a o e, m⟩
        · exact ⟨_, upd_same, .inl ⟨_, rfl⟩⟩
      refine ⟨fun i m H' => m = ds.length - i ∧ i ≤ ds.length ∧ ∃ rest, lcL (turnD t ft fe (wipeR ρ vs)) (ds.drop i) = .ok rest ∧ LcW X.K H0 (L2.wipe σ vs) H1 (wipeR ρ vs) U L tot rest H',
        ⟨ds.length, by simp, Nat.zero_le _, tot, by simpa using etot, P2, same_new hL, [], [], upd_same, .nil, rfl⟩, ?_⟩
      rintro i m H3 ⟨rfl, hi, rest, er, w⟩
      have kb : Kb true U H1 (fun a => U a ∨ a = L) H3 := ⟨fun p hp => w.pt.fresh hp, fun a z => z.imp id fun e => by rw [e]; exact hL, w.sm⟩
      obtain ⟨jstop, jgo⟩ := jd _ _ kb
      by_cases hlt : i < ds.length
      · have hd : ds[i]? = some ds[i] := List.getElem?_eq_getElem hlt
        obtain ⟨j1, j2⟩ := jgo i _ hd
        have edrop : ds.drop i = ds[i] :: ds.drop (i + 1) := List.drop_eq_getElem_cons hlt
        rw [edrop] at er
        obtain ⟨o, r', eg, er', hr⟩ := lcL_split er
        obtain ⟨ρ', bb, eb, et, ee⟩ := turnD_split eg
        refine .inr ⟨j1, fun H' => i + 1 ≤ ds.length ∧ ∃ rest, lcL (turnD t ft fe (wipeR ρ vs)) (ds.drop (i + 1)) = .ok rest ∧ LcW X.K H0 (L2.wipe σ vs) H1 (wipeR ρ vs) U L tot rest H', fun H' h => ⟨ds.length - (i + 1), by omega, rfl, h.1, h.2⟩, fun x H4 hy => ?_⟩
        obtain ⟨s4, rx⟩ := j2 x H4 hy
        have P4 := w.pt.same s4
        obtain ⟨as, ads, hacc, racc, htot⟩ := w.acc
        refine ⟨wipeR ρ vs, _, ds[i], ρ', P4, rx, eb, fun σ5 P5 k5 => ⟨?_, ρ', _, P5, ?_⟩⟩
        · have l5 : σ5.length = (L2.wipe σ vs).length := by
            have h1 := P5.len
            have h2 := P4.len
            have h3 : ρ'.length = (wipeR ρ vs).length := bindT_len eb
            omega
          rw [wipe_get l5.symm (fun j hj => k5 j fun z => hj (hvs j z))]
          have idem : ∀ (vs : List Nat) (σ : L2.St), L2.wipe (L2.wipe σ vs) vs = L2.wipe σ vs := fun vs σ => wipe_get (by rw [L2.wipe_length]) fun j hj => by
            have : ∀ (us : List Nat) (σ : L2.St), j ∉ us → (L2.wipe σ us)[j]? = σ[j]? := by
              intro us
              induction us with
              | nil => intro σ _; rfl
              | cons v us ih =>
                intro σ hj
                simp only [List.mem_cons, not_or] at hj
                unfold L2.wipe
                rw [List.getElem?_set_ne (fun e => hj.1 e.symm), ih σ hj.2]
            exact this vs σ hj
          exact idem vs σ
        · rw [et]
          intro H5 s5
          have keep5 : H5 L = some (.lst as) := s5 _ _ (s4 _ _ hacc)
          cases bb with
          | false =>
            simp only [Bool.false_eq_true, if_false] at ee ⊢
            subst ee
            exact ⟨hlt, r', er', ⟨(w.pt.same s4).same s5, w.sm.trans (s4.trans s5), as, ads, keep5, racc.mono (Kp.same (s4.trans s5)), by rw [htot, hr]; rfl⟩⟩
          | true =>
            simp only [if_true] at ee ⊢
            obtain ⟨y, ey, rfl⟩ := ee
            refine ⟨ρ', _, P5.same s5, ?_⟩
            rw [ey]
            intro yv H6 s6 ry
            have keep6 : H6 L = some (.lst as) := s6 _ _ keep5
            have s46 := s4.trans (s5.trans s6)
            have hl : as.length < sizeLine := by
              have h1 := racc.length
              have h2 : tot.length = ads.length + (y :: r').length := by rw [htot, hr, List.length_append]; rfl
              rw [List.length_cons] at h2
              omega
            refine ⟨as, keep6, hl, hlt, r', er', ?_⟩
            have k6 : Kp (fun a => U a ∨ a = L) (fun a => U a ∨ a = L) H6 (upd H6 L (.lst (as ++ [yv]))) := ⟨fun a o e n => by
              rw [upd_ne (fun z => n (.inr z))]
              exact e, fun a z => .inl z⟩
            refine ⟨(w.pt.same s46).kp k6 (fun a z => z) (fun j d a h1 h2 o e => ?_) (fun a z => ?_) ?_, ?_, as ++ [yv], ads ++ [y], upd_same, ?_, ?_⟩
            · have hne : a ≠ L := by
                rintro rfl
                have hs := (P1.wipe vs).sl j
                rw [h1, h2] at hs
                obtain ⟨a', e1, hu, _⟩ := hs
                cases e1
                exact hLU hu
              rw [upd_ne hne]
              exact e
            · by_cases hz : a = L
              · rw [hz]
                exact ⟨_, upd_same, .inl ⟨_, rfl⟩⟩
              · obtain ⟨o, e, m⟩ := (w.pt.same s46).ud a z
                exact ⟨o, by rw [upd_ne hz]; exact e, m⟩
            · intro a o e
              have hne : a ≠ L := by
                rintro rfl
                have := P1.s0 _ _ e
                rw [hL] at this
                cases this
              rw [upd_ne hne]
              exact s46 _ _ (w.pt.s0 _ _ e)
            · intro a o e
              have hne : a ≠ L := by
                rintro rfl
                rw [hL] at e
                cases e
              rw [upd_ne hne]
              exact s46 _ _ (w.sm _ _ e)
            · exact ((racc.mono (Kp.same s46)).mono k6).append (.cons (ry.mono k6) .nil)
            · rw [htot, hr]
              simp [consO]
      · have e : i = ds.length := by omega
        subst e
        rw [List.drop_length] at er
        cases er
        obtain ⟨as, ads, hacc, racc, htot⟩ := w.acc
        rw [List.append_nil] at htot
        subst htot
        exact .inl ⟨jstop, q _ _ (s1.trans w.sm) ⟨L, rfl, s1.free hL, as, hacc, racc⟩⟩
end
end Mp
namespace Mp
open PySem PySem.Spec PyProof.Rows L2
/-! ## statements -/
inductive SOut where
  | nx (ρ : Rho)
  | ret (d : D)
  | brk (ρ : Rho)
  | ct (ρ : Rho)
  | exc (c : Str) (fs : List (Str × D)) (ρ : Rho)
  | stuck
namespace SOut
def seq (x : SOut) (f : Rho → SOut) : SOut := match x with
  | .nx ρ => f ρ
  | y => y
end SOut
def Out.st {α : Type} (x : Out α) (ρ : Rho) (f : α → SOut) : SOut := match x with
  | .ok a => f a
  | .exc c fs => .exc c fs ρ
  | .stuck => .stuck
def PostS (X : Cx) (H0 : Ent) (W : WX) (Dn : Ends) (H : Hp) (U : Addr → Prop) : SOut → Prop
  | .nx ρ => ∀ σ' H' U', Kp U U' H H' → Pt X.K H0 σ' H' ρ U' → Dn.nx σ' H'
  | .brk ρ => ∀ σ' H' U', Kp U U' H H' → Pt X.K H0 σ' H' ρ U' → Dn.bk σ' H'
  | .ct ρ => ∀ σ' H' U', Kp U U' H H' → Pt X.K H0 σ' H' ρ U' → Dn.ct σ' H'
  | .ret d => ∀ v H', Same H0.h H' → Rep X.K H0.b H' v d → Dn.rt v H'
  | .exc c fs ρ => ∀ cls dd σ' H' U', Kp U U' H H' → Pt X.K H0 σ' H' ρ U' → ExR X.mg X.K H' c fs cls dd → W cls dd σ' H'
  | .stuck => False
theorem Kp.tr {U U1 U2 : Addr → Prop} {H H1 H2 : Hp} (a : Kp U U1 H H1) (b : Kp U1 U2 H1 H2) : Kp U U2 H H2 := by
  refine ⟨fun x o e n => b.k x o (a.k x o e n) fun z => ?_, fun x z => ?_⟩
  · rcases a.u x z with h | h
    · exact n h
    · rw [h] at e
      cases e
  · rcases b.u x z with h | h
    · exact a.u x h
    · by_cases hu : U x
      · exact .inl hu
      · refine .inr ?_
        cases q : H x with
        | none => rfl
        | some o =>
          rw [a.k x o q hu] at h
          cases h
theorem Kp.rfl {U : Addr → Prop} {H : Hp} : Kp U U H H := ⟨fun _ _ e _ => e, fun _ z => .inl z⟩
def tS (X : Cx) (H0 : Ent) (W : WX) (f : Rho → SOut) : TS := fun Dn σ H => ∃ ρ U, Pt X.K H0 σ H ρ U ∧ PostS X H0 W Dn H U (f ρ)
abbrev DS (X : Cx) (H0 : Ent) (W : WX) (st : Stmt) (f : Rho → SOut) : Prop := PS X st (tS X H0 W f)
abbrev DSs (X : Cx) (H0 : Ent) (W : WX) (st : List Stmt) (f : Rho → SOut) : Prop := PSs X st (tS X H0 W f)
section
variable {X : Cx} {H0 : Ent} {W : WX}
theorem PostS.later {Dn : Ends} {U U1 : Addr → Prop} {H H1 : Hp} (k : Kp U U1 H H1) : ∀ {r : SOut}, PostS X H0 W Dn H U r → PostS X H0 W Dn H1 U1 r
  | .nx ρ, q => fun σ' H' U' k' P => q σ' H' U' (k.tr k') P
  | .brk ρ, q => fun σ' H' U' k' P => q σ' H' U' (k.tr k') P
  | .ct ρ, q => fun σ' H' U' k' P => q σ' H' U' (k.tr k') P
  | .ret d, q => q
  | .exc c fs ρ, q => fun cls dd σ' H' U' k' P => q cls dd σ' H' U' (k.tr k') P
  | .stuck, q => q
/-- an expression's part in a statement -/
theorem PostS.expr {m : Md} {Dn : Ends} {σ : L2.St} {H : Hp} {ρ : Rho} {U : Addr → Prop} (P : Pt X.K H0 σ H ρ U) {r : Out D} {k : D → SOut} {Q : VK} (q : PostS X H0 W Dn H U (r.st ρ k))
    (h : ∀ d v H', r = .ok d → Same H H' → Pt X.K H0 σ H' ρ U → RepM X.K U H H' v d m → PostS X H0 W Dn H' U (k d) → Q v H') : PostM X W m σ H U Q r := by
  cases r with
  | ok d => exact fun v H' s rv => h d v H' rfl s (P.same s) rv (PostS.later (Kp.same s) q)
  | exc c fs => exact fun cls dd H' s x => q cls dd σ H' U (Kp.same s) (P.same s) x
  | stuck => exact q.elim
theorem PostS.test {Dn : Ends} {σ : L2.St} {H : Hp} {ρ : Rho} {U : Addr → Prop} (P : Pt X.K H0 σ H ρ U) {r : Out Bool} {k : Bool → SOut} {Q : Bool → Hp → Prop} (q : PostS X H0 W Dn H U (r.st ρ k))
    (h : ∀ d H', r = .ok d → Same H H' → Pt X.K H0 σ H' ρ U → PostS X H0 W Dn H' U (k d) → Q d H') : PostA X W σ H Q r := by
  cases r with
  | ok d => exact fun H' s => h d H' rfl s (P.same s) (PostS.later (Kp.same s) q)
  | exc c fs => exact fun cls dd H' s x => q cls dd σ H' U (Kp.same s) (P.same s) x
  | stuck => exact q.elim
theorem ds_never {st : Stmt} : DS X H0 W st fun _ => .stuck := PS.imp ps_never fun _ _ _ ⟨_, _, _, q⟩ => q.elim
theorem dss_nil : DSs X H0 W [] fun ρ => .nx ρ := PSs.imp pss_nil fun Dn σ H ⟨ρ, U, P, q⟩ => q σ H U Kp.rfl P
theorem dss_cons {st : Stmt} {rest : List Stmt} {f g : Rho → SOut} (h : DS X H0 W st f) (t : DSs X H0 W rest g) : DSs X H0 W (st :: rest) fun ρ => (f ρ).seq g :=
  PSs.imp (pss_cons h t) fun Dn σ H ⟨ρ, U, P, q⟩ => by
    refine ⟨ρ, U, P, ?_⟩
    replace q : PostS X H0 W Dn H U ((f ρ).seq g) := q
    revert q
    cases f ρ with
    | nx ρ1 => exact fun q σ' H' U' k P' => ⟨ρ1, U', P', PostS.later k q⟩
    | brk ρ1 => exact fun q => q
    | ct ρ1 => exact fun q => q
    | ret d => exact fun q => q
    | exc c fs ρ1 => exact fun q => q
    | stuck => exact fun q => q
theorem ds_pass {pos : Pos} : DS X H0 W (.Pass pos) fun ρ => .nx ρ := PS.imp ps_pass fun Dn σ H ⟨ρ, U, P, q⟩ => q σ H U Kp.rfl P
theorem ds_break {pos : Pos} : DS X H0 W (.Break pos) fun ρ => .brk ρ := PS.imp ps_break fun Dn σ H ⟨ρ, U, P, q⟩ => q σ H U Kp.rfl P
theorem ds_continue {pos : Pos} : DS X H0 W (.Continue pos) fun ρ => .ct ρ := PS.imp ps_continue fun Dn σ H ⟨ρ, U, P, q⟩ => q σ H U Kp.rfl P
theorem ds_doc {x : Str} {j} {p p2 : Pos} : DS X H0 W (.Expr (.Constant (.str x) j p) p2) fun ρ => .nx ρ := PS.imp ps_doc fun Dn σ H ⟨ρ, U, P, q⟩ => q σ H U Kp.rfl P
theorem ds_expr {e : Expr} {pos : Pos} {f : Rho → Out D} (h : DE X H0 W .b e f) (hs : swapsWith e none pos.line X.env = pure false) : DS X H0 W (.Expr e pos) fun ρ => (f ρ).st ρ fun _ => .nx ρ :=
  PS.imp (ps_expr h hs) fun Dn σ H ⟨ρ, U, P, q⟩ => ⟨ρ, U, P, PostS.expr P q fun d v H' _ s P' _ q' => q' σ H' U Kp.rfl P'⟩
theorem rep_out {σ : L2.St} {H' : Hp} {ρ : Rho} {U : Addr → Prop} (P : Pt X.K H0 σ H' ρ U) {v : V} {d : D} (r : Rep X.K U H' v d) : Rep X.K H0.b H' v d := r.mono (Kp.less P.bu)
theorem ds_ret {e : Expr} {pos : Pos} {f : Rho → Out D} (h : DE X H0 W .v e f) : DS X H0 W (.Return (some e) pos) fun ρ => (f ρ).st ρ .ret :=
  PS.imp (ps_ret h) fun Dn σ H ⟨ρ, U, P, q⟩ => ⟨ρ, U, P, PostS.expr P q fun d v H' _ s P' r q' => q' v H' P'.s0 (rep_out P' r)⟩
theorem ds_retN {pos : Pos} : DS X H0 W (.Return none pos) fun _ => .ret .none := PS.imp ps_retN fun Dn σ H ⟨ρ, U, P, q⟩ => q .non H P.s0 .non
theorem ds_if {c : Expr} {a b : List Stmt} {pos : Pos} {fc : Rho → Out Bool} {fa fb : Rho → SOut} (hc : DT X H0 W c fc) (ha : DSs X H0 W a fa) (hb : DSs X H0 W b fb) : DS X H0 W (.If c a b pos) fun ρ => (fc ρ).st ρ fun k => if k = true then fa ρ else fb ρ :=
  PS.imp (ps_if hc ha hb) fun Dn σ H ⟨ρ, U, P, q⟩ => ⟨ρ, U, P, PostS.test P q fun k H' _ s P' q' => by
    cases k with
    | true => exact ⟨ρ, U, P', q'⟩
    | false => exact ⟨ρ, U, P', q'⟩⟩
/-! ### assignments -/
def setV (i : Nat) (ρ : Rho) (d : D) : SOut := .nx (ρ.set i (some (false, d)))
def setF (i : Nat) (ρ : Rho) (d : D) : SOut := .nx (ρ.set i (some (true, d)))
theorem Pt.new {K : PySem.W.Frag} {σ : L2.St} {H H' : Hp} {ρ : Rho} {U : Addr → Prop} (P : Pt K H0 σ H' ρ U) (s : Same H H') (i : Nat) {a : Addr} {d : D} (hu : ¬ U a) (h0 : H0.h a = none) (r : Own K (fun b => U b ∨ b = a) H' a d) (k : Kp U (fun b => U b ∨ b = a) H H') (P0 : Pt K H0 σ H ρ U) :
    Pt K H0 (σ.set i (some (.ref a))) H' (ρ.set i (some (true, d))) fun b => U b ∨ b = a := by
  have hl : σ.length = ρ.length := P.len
  have mu : ∃ o, H' a = some o ∧ MuO o := by
    cases d with
    | list ds =>
      obtain ⟨vs, e, _⟩ := r
      exact ⟨_, e, .inl ⟨_, rfl⟩⟩
    | dict ds =>
      rcases r with ⟨vs, e, _⟩ | ⟨_, _, _, _, _, _, e, _⟩
      · exact ⟨_, e, .inr (.inl ⟨_, rfl⟩)⟩
      · exact ⟨_, e, .inr (.inr ⟨_, _, _, rfl⟩)⟩
    | _ => exact r.elim
  have sl' := fun j => (P0.sl j).mono k (fun b z => .inl z) fun d b h1 h2 o e => s b o e
  refine ⟨by rw [List.length_set, List.length_set]; exact hl, fun j => ?_, fun j l d' e' b h1 h2 h3 h4 => ?_, fun b z => ?_, fun b z => .inl (P.bu b z), P.bd, P.s0⟩
  · by_cases hij : i = j
    · subst hij
      by_cases hi : i < ρ.length
      · rw [List.getElem?_set_self hi, List.getElem?_set_self (by rw [hl]; exact hi)]
        exact ⟨a, rfl, .inr rfl, h0, r⟩
      · rw [List.getElem?_eq_none (l := ρ.set i _) (by rw [List.length_set]; omega)]
        trivial
    · rw [List.getElem?_set_ne hij, List.getElem?_set_ne hij]
      exact sl' j
  · have out : ∀ {x : Nat} {d : D}, i ≠ x → (ρ.set i (some (true, d')))[x]? = ρ[x]? := fun h => List.getElem?_set_ne h
    have notOld : ∀ (x : Nat) (d : D), ρ[x]? = some (some (true, d)) → σ[x]? = some (some (.ref a)) → False := fun x d q1 q2 => by
      have := P.sl x
      rw [q1, q2] at this
      obtain ⟨a', e1, hu', _⟩ := this
      cases e1
      exact hu hu'
    have isA : ∀ (x : Nat) (b : Addr) (d : D), i = x → (ρ.set i (some (true, d)))[x]? = (ρ.set i (some (true, d)))[x]? → (σ.set i (some (.ref a)))[x]? = some (some (.ref b)) → a = b := fun x b d q1 _ q3 => by
      subst q1
      by_cases hi : i < σ.length
      · rw [List.getElem?_set_self hi] at q3
        cases q3
        rfl
      · rw [List.getElem?_eq_none (by rw [List.length_set]; omega)] at q3
        cases q3
    by_cases hj : i = j <;> by_cases hk : i = l
    · rw [← hj, ← hk]
    · have e1 := isA j b d hj rfl h3
      rw [List.getElem?_set_ne hk] at h2 h4
      subst e1
      exact (notOld l e' h2 h4).elim
    · have e1 := isA l b d hk rfl h4
      rw [List.getElem?_set_ne hj] at h1 h3
      subst e1
      exact (notOld j d' h1 h3).elim
    · rw [List.getElem?_set_ne hj] at h1 h3
      rw [List.getElem?_set_ne hk] at h2 h4
      exact P.ne j l d' e' b h1 h2 h3 h4
  · rcases z with z | rfl
    · exact P.ud b z
    · exact mu
theorem asgV {st : Stmt} {i : Nat} {f : Rho → Out D} (h : PS X st (tAsg (tD X H0 W .v f) (gName i))) : DS X H0 W st fun ρ => (f ρ).st ρ (setV i ρ) :=
  PS.imp h fun Dn σ H ⟨ρ, U, P, q⟩ => ⟨ρ, U, P, PostS.expr P q fun d v H' _ s P' r q' => q' _ H' U Kp.rfl (P'.set i r)⟩
theorem asgF {st : Stmt} {i : Nat} {f : Rho → Out D} (h : PS X st (tAsg (tD X H0 W .f f) (gName i))) : DS X H0 W st fun ρ => (f ρ).st ρ (setF i ρ) :=
  PS.imp h fun Dn σ H ⟨ρ, U, P, q⟩ => by
    refine ⟨ρ, U, P, ?_⟩
    replace q : PostS X H0 W Dn H U ((f ρ).st ρ (setF i ρ)) := q
    cases ef : f ρ with
    | exc c fs =>
      rw [ef] at q
      exact fun cls dd H' s x => q cls dd σ H' U (Kp.same s) (P.same s) x
    | stuck =>
      rw [ef] at q
      exact q.elim
    | ok d =>
      rw [ef] at q
      intro v H' s r
      obtain ⟨a, rfl, hn, ow⟩ := r
      have k : Kp U (fun b => U b ∨ b = a) H H' := ⟨fun b o e _ => s b o e, fun b z => z.imp id fun e => by rw [e]; exact hn⟩
      refine q _ H' _ k (Pt.new (P.same s) s i (P.fresh hn) ?_ ow k P)
      cases e0 : H0.h a with
      | none => rfl
      | some o =>
        have := P.s0 _ _ e0
        rw [hn] at this
        cases this
theorem ds_set {i : Nat} {x : Str} {e : Expr} {f : Rho → Out D} {p pos : Pos} (hN : X.N.Nodup) (hi : X.N[i]? = some x) (hx : Loc X.env.scope x) (hf : X.fn x = true ∨ X.env.scope.names.lookup x = some .local) (h : DE X H0 W .v e f) (hs : swapsWith e (some (.Name x p)) pos.line X.env = pure false) :
    DS X H0 W (.Assign [.Name x p] e pos) fun ρ => (f ρ).st ρ (setV i ρ) := asgV (ps_set hN hi hx h hs hf)
theorem ds_setF {i : Nat} {x : Str} {e : Expr} {f : Rho → Out D} {p pos : Pos} (hN : X.N.Nodup) (hi : X.N[i]? = some x) (hx : Loc X.env.scope x) (hf : X.fn x = true ∨ X.env.scope.names.lookup x = some .local) (h : DE X H0 W .f e f) (hs : swapsWith e (some (.Name x p)) pos.line X.env = pure false) :
    DS X H0 W (.Assign [.Name x p] e pos) fun ρ => (f ρ).st ρ (setF i ρ) := asgF (ps_set hN hi hx h hs hf)
def bindS (t : Tg) (ρ : Rho) (d : D) : SOut := match bindT t d ρ with
  | some ρ' => .nx ρ'
  | none => .stuck
theorem ds_asgT {tg e : Expr} {t : Tg} {f : Rho → Out D} {pos : Pos} (h : DE X H0 W .v e f) (hg : DG X H0 tg t) (hs : swapsWithSole [tg] e pos.line X.env = pure false) (hw : swappedStores [tg] e X.env = pure none) (h1 : (assignEach [tg] X.env).map (·.2) = [assign tg X.env]) :
    DS X H0 W (.Assign [tg] e pos) fun ρ => (f ρ).st ρ (bindS t ρ) :=
  PS.imp (ps_asg h hg hs hw h1) fun Dn σ H ⟨ρ, U, P, q⟩ => ⟨ρ, U, P, PostS.expr P q fun d v H' _ s P' r q' => by
    unfold bindS at q'
    split at q'
    · rename_i ρ' hb
      exact ⟨ρ, U, d, ρ', P', .rep r, hb, fun σ' P'' _ => q' σ' H' U Kp.rfl P''⟩
    · exact q'.elim⟩
def bindsS (ts : List Tg) (ρ : Rho) (ds : List D) : SOut := match bindTs ts ds ρ with
  | some ρ' => .nx ρ'
  | none => .stuck
theorem PostS.args {Dn : Ends} {σ : L2.St} {H : Hp} {ρ : Rho} {U : Addr → Prop} {b : Bool} (P : Pt X.K H0 σ H ρ U) {r : Out (List D)} {k : List D → SOut} {Q : List V → Hp → Prop} (q : PostS X H0 W Dn H U (r.st ρ k))
    (h : ∀ ds vs H', r = .ok ds → Same H H' → Pt X.K H0 σ H' ρ U → RepL X.K U H' vs ds b → PostS X H0 W Dn H' U (k ds) → Q vs H') : PostL X W b σ H U Q r := by
  cases r with
  | ok ds => exact fun vs H' s rv => h ds vs H' rfl s (P.same s) rv (PostS.later (Kp.same s) q)
  | exc c fs => exact fun cls dd H' s x => q cls dd σ H' U (Kp.same s) (P.same s) x
  | stuck => exact q.elim
theorem ds_par2 {i j : Nat} {x y : Str} {a b : Expr} {px py pt pos : Pos} {kt k2 : Nat} {pt2 : Pos} {f : Rho → Out (List D)} (hc : X.calm = true) (hN : X.N.Nodup) (hi : X.N[i]? = some x) (hj : X.N[j]? = some y) (hij : i ≠ j)
    (hx : X.env.scope.names.lookup x = some .local) (hy : X.env.scope.names.lookup y = some .local) (ha : DA X H0 W false [a, b] f)
    (hw : swappedStores [.Tuple [.Name x px, .Name y py] kt pt] (.Tuple [a, b] k2 pt2) X.env = pure (some [x, y]))
    (hs : swapsWithSole [.Tuple [.Name x px, .Name y py] kt pt] (.Tuple [a, b] k2 pt2) pos.line X.env = pure false) :
    DS X H0 W (.Assign [.Tuple [.Name x px, .Name y py] kt pt] (.Tuple [a, b] k2 pt2) pos) fun ρ => (f ρ).st ρ (bindsS [.nm i, .nm j] ρ) :=
  PS.imp (ps_par hc hN hi hj hij hx hy ha hw hs) fun Dn σ H ⟨ρ, U, P, q⟩ => ⟨ρ, U, P, PostS.args P q fun ds vs H' _ s P' r q' => by
    have r : Reps X.K U H' vs ds := r
    unfold bindsS at q'
    split at q'
    · rename_i ρ' hb
      match ds, hb, r with
      | [d, e], hb, r =>
        obtain ⟨v, w, rfl, r1, r2⟩ := reps2 r
        simp only [bindTs, bindT, Option.bind_some, Option.some.injEq] at hb
        subst hb
        exact ⟨v, w, rfl, q' _ H' U Kp.rfl ((P'.set i r1).set j r2)⟩
      | [], hb, _ => simp [bindTs] at hb
      | [_], hb, _ => simp [bindTs, bindT] at hb
      | _ :: _ :: _ :: _, hb, _ => simp [bindTs, bindT] at hb
    · exact q'.elim⟩
theorem reps3 {K : PySem.W.Frag} {U : Addr → Prop} {H : Hp} {vs : List V} {d e g : D} (r : Reps K U H vs [d, e, g]) : ∃ v u w, vs = [v, u, w] ∧ Rep K U H v d ∧ Rep K U H u e ∧ Rep K U H w g := by
  cases r with
  | cons r t =>
    obtain ⟨u, w, rfl, r2, r3⟩ := reps2 t
    exact ⟨_, _, _, rfl, r, r2, r3⟩
theorem ds_par3 {i j l : Nat} {x y z : Str} {a b c : Expr} {px py pz pt pos : Pos} {kt k2 : Nat} {pt2 : Pos} {f : Rho → Out (List D)} (hc : X.calm = true) (hN : X.N.Nodup) (hi : X.N[i]? = some x) (hj : X.N[j]? = some y) (hl : X.N[l]? = some z) (hij : i ≠ j) (hil : i ≠ l) (hjl : j ≠ l)
    (hx : X.env.scope.names.lookup x = some .local) (hy : X.env.scope.names.lookup y = some .local) (hz : X.env.scope.names.lookup z = some .local) (ha : DA X H0 W false [a, b, c] f)
    (hw : swappedStores [.Tuple [.Name x px, .Name y py, .Name z pz] kt pt] (.Tuple [a, b, c] k2 pt2) X.env = pure (some [x, y, z]))
    (hs : swapsWithSole [.Tuple [.Name x px, .Name y py, .Name z pz] kt pt] (.Tuple [a, b, c] k2 pt2) pos.line X.env = pure false) :
    DS X H0 W (.Assign [.Tuple [.Name x px, .Name y py, .Name z pz] kt pt] (.Tuple [a, b, c] k2 pt2) pos) fun ρ => (f ρ).st ρ (bindsS [.nm i, .nm j, .nm l] ρ) :=
  PS.imp (ps_par3 hc hN hi hj hl hij hil hjl hx hy hz ha hw hs) fun Dn σ H ⟨ρ, U, P, q⟩ => ⟨ρ, U, P, PostS.args P q fun ds vs H' _ s P' r q' => by
    have r : Reps X.K U H' vs ds := r
    unfold bindsS at q'
    split at q'
    · rename_i ρ' hb
      match ds, hb, r with
      | [d, e, g], hb, r =>
        obtain ⟨v, w, u, rfl, r1, r2, r3⟩ := reps3 r
        simp only [bindTs, bindT, Option.bind_some, Option.some.injEq] at hb
        subst hb
        exact ⟨v, w, u, rfl, q' _ H' U Kp.rfl (((P'.set i r1).set j r2).set l r3)⟩
      | [], hb, _ => simp [bindTs] at hb
      | [_], hb, _ => simp [bindTs, bindT] at hb
      | [_, _], hb, _ => simp [bindTs, bindT] at hb
      | _ :: _ :: _ :: _ :: _, hb, _ => simp [bindTs, bindT] at hb
    · exact q'.elim⟩
/-! ### owned no more -/
def demO : Option (Option (Bool × D)) → Option (Option (Bool × D))
  | some (some (_, d)) => some (some (false, d))
  | x => x
def dem1 (i : Nat) (ρ : Rho) : Rho := match ρ[i]? with
  | some (some (true, d)) => ρ.set i (some (false, d))
  | _ => ρ
def dem : List Nat → Rho → Rho
  | [], ρ => ρ
  | i :: is, ρ => dem is (dem1 i ρ)
theorem Pt.dem1 {K : PySem.W.Frag} {σ : L2.St} {H : Hp} {ρ : Rho} {U : Addr → Prop} (P : Pt K H0 σ H ρ U) (i : Nat) : ∃ U', Kp U U' H H ∧ Pt K H0 σ H (dem1 i ρ) U' := by
  unfold Mp.dem1
  split
  · rename_i d hd
    have hs := P.sl i
    rw [hd] at hs
    obtain ⟨a, e1, hu, h0, ow⟩ := hs
    have k : Kp U (fun b => U b ∧ b ≠ a) H H := Kp.less fun _ z => z.1
    refine ⟨fun b => U b ∧ b ≠ a, k, by rw [List.length_set]; exact P.len, fun j => ?_, fun j l d' e' b h1 h2 h3 h4 => ?_, fun b z => P.ud b z.1, fun b z => ⟨P.bu b z, ?_⟩, P.bd, P.s0⟩
    · by_cases hij : i = j
      · subst hij
        have hi : i < ρ.length := (List.getElem?_eq_some_iff.mp hd).1
        rw [List.getElem?_set_self hi, e1]
        exact ⟨_, rfl, ow.rep k fun z => z.2 rfl⟩
      · rw [List.getElem?_set_ne hij]
        have hj := P.sl j
        cases ej : ρ[j]? with
        | none => trivial
        | some o =>
          rw [ej] at hj
          cases o with
          | none => trivial
          | some q =>
            obtain ⟨b, d'⟩ := q
            cases b with
            | false =>
              obtain ⟨x, e2, r⟩ := hj
              exact ⟨x, e2, r.mono k⟩
            | true =>
              obtain ⟨a2, e2, hu2, h02, ow2⟩ := hj
              refine ⟨a2, e2, ⟨hu2, ?_⟩, h02, ow2.mono k fun _ z => z⟩
              rintro rfl
              exact hij (P.ne i j d d' a2 hd ej e1 e2)
    · have hj : i ≠ j := by
        rintro rfl
        have hi : i < ρ.length := (List.getElem?_eq_some_iff.mp hd).1
        rw [List.getElem?_set_self hi] at h1
        cases h1
      have hl : i ≠ l := by
        rintro rfl
        have hi : i < ρ.length := (List.getElem?_eq_some_iff.mp hd).1
        rw [List.getElem?_set_self hi] at h2
        cases h2
      rw [List.getElem?_set_ne hj] at h1
      rw [List.getElem?_set_ne hl] at h2
      exact P.ne j l d' e' b h1 h2 h3 h4
    · rintro rfl
      obtain ⟨o, e⟩ := P.bd b z
      rw [h0] at e
      cases e
  · exact ⟨U, Kp.rfl, P⟩
theorem Pt.dem {K : PySem.W.Frag} {σ : L2.St} {H : Hp} : ∀ (is : List Nat) {ρ : Rho} {U : Addr → Prop}, Pt K H0 σ H ρ U → ∃ U', Kp U U' H H ∧ Pt K H0 σ H (Mp.dem is ρ) U'
  | [], ρ, U, P => ⟨U, Kp.rfl, P⟩
  | i :: is, ρ, U, P => by
    obtain ⟨U1, k1, P1⟩ := P.dem1 i
    obtain ⟨U2, k2, P2⟩ := Pt.dem is P1
    exact ⟨U2, k1.tr k2, P2⟩
theorem DS.dem {st : Stmt} {f : Rho → SOut} (h : DS X H0 W st f) (is : List Nat) : DS X H0 W st fun ρ => f (Mp.dem is ρ) :=
  PS.imp h fun Dn σ H ⟨ρ, U, P, q⟩ => by
    obtain ⟨U', k, P'⟩ := P.dem is
    exact ⟨_, U', P', PostS.later k q⟩
/-! ### what is owned is written to -/
theorem Pt.write {K : PySem.W.Frag} {σ : L2.St} {H : Hp} {ρ : Rho} {U : Addr → Prop} (P : Pt K H0 σ H ρ U) {i : Nat} {d d' : D} {a : Addr} {o : HO} (h1 : ρ[i]? = some (some (true, d))) (h2 : σ[i]? = some (some (.ref a))) (mu : MuO o) (ow : Kp U U H (upd H a o) → Own K U (upd H a o) a d') :
    Pt K H0 σ (upd H a o) (ρ.set i (some (true, d'))) U ∧ Kp U U H (upd H a o) := by
  have hs := P.sl i
  rw [h1, h2] at hs
  obtain ⟨a', e1, hu, h0, _⟩ := hs
  cases e1
  have hi : i < ρ.length := (List.getElem?_eq_some_iff.mp h1).1
  have k : Kp U U H (upd H a o) := ⟨fun b q e n => by
    rw [upd_ne fun z => n (by rw [z]; exact hu)]
    exact e, fun b z => .inl z⟩
  refine ⟨⟨by rw [List.length_set]; exact P.len, fun j => ?_, fun j l d1 e1 b q1 q2 q3 q4 => ?_, fun b z => ?_, P.bu, P.bd, fun b q e => ?_⟩, k⟩
  · by_cases hij : i = j
    · subst hij
      rw [List.getElem?_set_self hi, h2]
      exact ⟨a, rfl, hu, h0, ow k⟩
    · rw [List.getElem?_set_ne hij]
      refine (P.sl j).mono k (fun _ z => z) fun d2 b q1 q2 o' e => ?_
      rw [upd_ne fun z => hij (P.ne i j d d2 a h1 q1 h2 (by rw [q2, z]))]
      exact e
  · have f1 : ∃ dd, ρ[j]? = some (some (true, dd)) := by
      by_cases hij : i = j
      · subst hij
        exact ⟨d, h1⟩
      · rw [List.getElem?_set_ne hij] at q1
        exact ⟨_, q1⟩
    have f2 : ∃ dd, ρ[l]? = some (some (true, dd)) := by
      by_cases hij : i = l
      · subst hij
        exact ⟨d, h1⟩
      · rw [List.getElem?_set_ne hij] at q2
        exact ⟨_, q2⟩
    obtain ⟨da, fa⟩ := f1
    obtain ⟨db, fb⟩ := f2
    exact P.ne j l da db b fa fb q3 q4
  · by_cases hz : b = a
    · subst hz
      exact ⟨o, upd_same, mu⟩
    · obtain ⟨o', e, m⟩ := P.ud b z
      exact ⟨o', by rw [upd_ne hz]; exact e, m⟩
  · have hz : b ≠ a := by
      rintro rfl
      rw [h0] at e
      cases e
    rw [upd_ne hz]
    exact P.s0 _ _ e
def appD (i : Nat) (ρ : Rho) (d : D) : SOut := match ρ[i]? with
  | some (some (true, .list ds)) => if ds.length < sizeLine then .nx (ρ.set i (some (true, .list (ds ++ [d])))) else .stuck
  | _ => .stuck
def ownL (i : Nat) (ρ : Rho) : Bool := match ρ[i]? with
  | some (some (true, .list _)) => true
  | _ => false
theorem ds_append {i : Nat} {x : Str} {e : Expr} {f : Rho → Out D} {p apos cpos pos : Pos} (hN : X.N[i]? = some x) (hv : Vis X.env.scope x) (hd : (x == ("__debug__" : Str)) = false) (hcd : (x == ("__classdict__" : Str)) = false) (h : DE X H0 W .v e f)
    (hs1 : starEach [e] X.env = [(false, eval e X.env)]) (hline : (apos.endLine == cpos.line) = true) :
    DS X H0 W (.Expr (.Call (.Attribute (.Name x p) "append" apos) [e] [] cpos) pos) fun ρ => if ownL i ρ = true then (f ρ).st ρ (appD i ρ) else .stuck :=
  PS.imp (ps_expr (pe_bm (T := "list") (id := "list.append") F.plainAttrs_list F.slot_list_append F.type_list_append mt_append (pe_var hN hv hd hcd) (pa_cons h pa_nil hs1) rfl (by rw [hs1]; rfl) hline hs1 rfl) rfl) fun Dn σ H ⟨ρ, U, P, q⟩ => by
    replace q : PostS X H0 W Dn H U (if ownL i ρ = true then (f ρ).st ρ (appD i ρ) else .stuck) := q
    split at q
    case isFalse => exact q.elim
    rename_i hown
    unfold ownL at hown
    split at hown
    case h_2 => cases hown
    rename_i ds hi
    have hs := P.sl i
    rw [hi] at hs
    obtain ⟨a, e1, hu, h0, vs, e2, rs⟩ := hs
    refine ⟨.ref a, e1, .inl ⟨rfl, vs, .inl (.inl e2)⟩, ρ, U, P, PostS.expr P q fun d v H' _ s P' r q' => ?_⟩
    unfold appD at q'
    rw [hi] at q'
    replace q' : PostS X H0 W Dn H' U (if ds.length < sizeLine then .nx (ρ.set i (some (true, .list (ds ++ [d])))) else .stuck) := q'
    split at q'
    · rename_i hz
      have l := rs.length
      refine ⟨a, vs, v, rfl, rfl, s _ _ e2, by omega, ?_⟩
      obtain ⟨P2, k2⟩ := P'.write (d' := .list (ds ++ [d])) (o := .lst (vs ++ [v])) hi e1 (.inl ⟨_, rfl⟩) fun k => ⟨_, upd_same, ((rs.mono (Kp.same s)).mono k).append (.cons (r.mono k) .nil)⟩
      exact q' _ _ U k2 P2
    · exact q'.elim
end
end Mp
namespace Mp
open PySem PySem.Spec PyProof.Rows L2
/-! ## loops -/
def forL (t : Tg) (fb : Rho → SOut) : List D → Rho → SOut
  | [], ρ => .nx ρ
  | d :: ds, ρ => match bindT t d ρ with
    | none => .stuck
    | some ρ1 => match fb ρ1 with
      | .nx ρ2 => forL t fb ds ρ2
      | .ct ρ2 => forL t fb ds ρ2
      | .brk ρ2 => .nx ρ2
      | .ret d => .ret d
      | .exc c fs ρ2 => .exc c fs ρ2
      | .stuck => .stuck
section
variable {X : Cx} {H0 : Ent} {W : WX}
theorem ds_for {tg iter : Expr} {t : Tg} {body : List Stmt} {pos : Pos} {fi : Rho → Out (List D)} {fb : Rho → SOut} (hp : PassesOwn (model X.prog X.w) X.A X.env X.xe) (hc : X.calm = true) (hi : DI X H0 W false tg iter fi) (hg : DG X H0 tg t) (hb : DSs X H0 W body fb)
    (hs : ∀ x, foldedSetIterable iter X.env x = pure x) : DS X H0 W (.For tg iter body [] pos) fun ρ => (fi ρ).st ρ fun ds => forL t fb ds ρ :=
  PS.imp (ps_for hp hc hi hg hb hs) fun Dn σ H ⟨ρ, U, P, q⟩ => by
    refine ⟨ρ, U, P, ?_⟩
    replace q : PostS X H0 W Dn H U ((fi ρ).st ρ fun ds => forL t fb ds ρ) := q
    cases ef : fi ρ with
    | exc c fs =>
      rw [ef] at q
      exact fun cls dd H' s x => q cls dd σ H' U (Kp.same s) (P.same s) x
    | stuck =>
      rw [ef] at q
      exact q.elim
    | ok ds =>
      rw [ef] at q
      replace q : PostS X H0 W Dn H U (forL t fb ds ρ) := q
      intro J H1 s1 jd
      refine ⟨fun i m σ' H' => m = ds.length - i ∧ i ≤ ds.length ∧ ∃ ρ' U', Kp U U' H1 H' ∧ Pt X.K H0 σ' H' ρ' U' ∧ PostS X H0 W Dn H' U' (forL t fb (ds.drop i) ρ'),
        ⟨ds.length, by simp, Nat.zero_le _, ρ, U, Kp.rfl, P.same s1, by simpa using PostS.later (Kp.same s1) q⟩, ?_⟩
      rintro i m σ2 H2 ⟨rfl, hi2, ρ2, U2, k2, P2, q2⟩
      obtain ⟨j1, j2⟩ := jd U2 H2 ⟨fun p hp => P2.fresh hp, k2⟩
      by_cases hlt : i < ds.length
      · obtain ⟨j3, j4⟩ := j2 i _ (List.getElem?_eq_getElem hlt)
        have edrop : ds.drop i = ds[i] :: ds.drop (i + 1) := List.drop_eq_getElem_cons hlt
        rw [edrop] at q2
        unfold forL at q2
        refine .inr ⟨j3, fun σ' H' => i + 1 ≤ ds.length ∧ ∃ ρ' U', Kp U U' H1 H' ∧ Pt X.K H0 σ' H' ρ' U' ∧ PostS X H0 W Dn H' U' (forL t fb (ds.drop (i + 1)) ρ'), fun σ' H' h => ⟨ds.length - (i + 1), by omega, rfl, h.1, h.2⟩, fun x H3 hy => ?_⟩
        obtain ⟨s3, rx⟩ := j4 x H3 hy
        have P3 := P2.same s3
        split at q2
        · exact q2.elim
        rename_i ρ3 eb
        refine ⟨ρ2, U2, ds[i], ρ3, P3, rx, eb, fun σ4 P4 _ => ⟨ρ3, U2, P4, ?_⟩⟩
        have q3 := PostS.later (Kp.same s3) q2
        cases e3 : fb ρ3 with
        | nx ρ5 =>
          rw [e3] at q3
          exact fun σ' H' U' k P' => ⟨hlt, ρ5, U', k2.tr ((Kp.same s3).tr k), P', PostS.later k q3⟩
        | ct ρ5 =>
          rw [e3] at q3
          exact fun σ' H' U' k P' => ⟨hlt, ρ5, U', k2.tr ((Kp.same s3).tr k), P', PostS.later k q3⟩
        | brk ρ5 =>
          rw [e3] at q3
          exact q3
        | ret d =>
          rw [e3] at q3
          exact q3
        | exc c fs ρ5 =>
          rw [e3] at q3
          exact q3
        | stuck =>
          rw [e3] at q3
          exact q3.elim
      · have e : i = ds.length := by omega
        subst e
        rw [List.drop_length] at q2
        exact .inl ⟨j1, q2 σ2 H2 U2 Kp.rfl P2⟩
/-! ### while -/
def whileF (fc : Rho → Out Bool) (fb : Rho → SOut) : Nat → Rho → SOut
  | 0, _ => .stuck
  | n + 1, ρ => (fc ρ).st ρ fun k => if k = true then (match fb ρ with
    | .nx ρ2 => whileF fc fb n ρ2
    | .ct ρ2 => whileF fc fb n ρ2
    | .brk ρ2 => .nx ρ2
    | .ret d => .ret d
    | .exc c fs ρ2 => .exc c fs ρ2
    | .stuck => .stuck) else .nx ρ
theorem ds_while {c : Expr} {body : List Stmt} {pos : Pos} {fc : Rho → Out Bool} {fb : Rho → SOut} (hp : PassesOwn (model X.prog X.w) X.A X.env X.xe) (hc : DT X H0 W c fc) (hb : DSs X H0 W body fb) (n : Nat) : DS X H0 W (.While c body [] pos) (whileF fc fb n) :=
  PS.imp (ps_while hp hc hb) fun Dn σ H ⟨ρ, U, P, q⟩ => by
    refine ⟨fun m σ' H' => ∃ ρ' U', Pt X.K H0 σ' H' ρ' U' ∧ PostS X H0 W Dn H' U' (whileF fc fb m ρ'), ⟨n, ρ, U, P, q⟩, ?_⟩
    rintro m σ2 H2 ⟨ρ2, U2, P2, q2⟩
    cases m with
    | zero => exact q2.elim
    | succ m =>
      unfold whileF at q2
      refine ⟨ρ2, U2, P2, PostS.test P2 q2 fun k H3 _ s3 P3 q3 => ?_⟩
      cases k with
      | false => exact q3 σ2 H3 U2 Kp.rfl P3
      | true =>
        simp only [if_true] at q3 ⊢
        refine ⟨fun σ' H' => ∃ ρ' U', Pt X.K H0 σ' H' ρ' U' ∧ PostS X H0 W Dn H' U' (whileF fc fb m ρ'), fun σ' H' h => ⟨m, Nat.lt_succ_self m, h⟩, ρ2, U2, P3, ?_⟩
        cases e3 : fb ρ2 with
        | nx ρ5 =>
          rw [e3] at q3
          exact fun σ' H' U' k P' => ⟨ρ5, U', P', PostS.later k q3⟩
        | ct ρ5 =>
          rw [e3] at q3
          exact fun σ' H' U' k P' => ⟨ρ5, U', P', PostS.later k q3⟩
        | brk ρ5 =>
          rw [e3] at q3
          exact q3
        | ret d =>
          rw [e3] at q3
          exact q3
        | exc c fs ρ5 =>
          rw [e3] at q3
          exact q3
        | stuck =>
          rw [e3] at q3
          exact q3.elim
/-- by any number of turns -/
theorem DS.any {st : Stmt} {f : Nat → Rho → SOut} {g : Rho → SOut} (h : ∀ n, DS X H0 W st (f n)) (hg : ∀ ρ, g ρ = .stuck ∨ ∃ n, g ρ = f n ρ) : DS X H0 W st g :=
  ⟨fun pins s σ H Dn I ⟨ρ, U, P, q⟩ => by
    rcases hg ρ with e | ⟨n, e⟩
    · rw [e] at q
      exact q.elim
    · exact (h n).run pins s σ H Dn I ⟨ρ, U, P, by rw [← e]; exact q⟩⟩
/-! ## comprehensions, as values and stored -/
theorem de_lc {elt tg iter : Expr} {ifs : List Expr} {scope : Scope} {own : List (Str × Nat)} {pos : Pos} {t : Tg} {fi : Rho → Out (List D)} {ft : Rho → Out Bool} {fe : Rho → Out D} (hc : X.calm = true) (hN : X.N.Nodup) (hi : DI X H0 W true tg iter fi) (ok : BlkOk X.N X.env.scope scope own) (hvs : ∀ j ∈ t.ixs, j ∈ own.map (·.2))
    (hg : ∀ s H C cl fp, DG (X.blk s H scope (compEnvC scope cl C X.env) fp) H0 tg t) (ht : ∀ s H C cl fp, PTsD (X.blk s H scope (compEnvC scope cl C X.env) fp) H0 W0 ifs ft)
    (he : ∀ s H C cl fp, DE (X.blk s H scope (compEnvC scope cl C X.env) fp) H0 W0 .v elt fe) (hs : ∀ x, foldedSetIterable iter X.env x = pure x) :
    DE X H0 W .f (.ListComp elt [⟨tg, iter, ifs, 0⟩] scope pos) fun ρ => (fi ρ).bind fun ds => (noxO (lcL (turnD t ft fe (wipeR ρ (own.map (·.2)))) ds)).bind lstD :=
  PE.imp (pe_lc (g := tDG X H0 (tpE tg) t) (tt := tDT X H0 W0 ft) (te := tD X H0 W0 .v fe) hc hN hi ok hg ht he hs) fun σ H Q h => lc_rule hvs h
theorem ds_lc {i : Nat} {y : Str} {py : Pos} {elt tg iter : Expr} {ifs : List Expr} {scope : Scope} {own : List (Str × Nat)} {pos spos : Pos} {t : Tg} {fi : Rho → Out (List D)} {ft : Rho → Out Bool} {fe : Rho → Out D} (hc : X.calm = true) (hN : X.N.Nodup) (hy : X.N[i]? = some y) (hyl : X.env.scope.names.lookup y = some .local)
    (hsw : swapsWith (.ListComp elt [⟨tg, iter, ifs, 0⟩] scope pos) (some (.Name y py)) spos.line X.env = pure true) (hi : DI X H0 W true tg iter fi) (ok : BlkOk X.N X.env.scope scope own) (hvs : ∀ j ∈ t.ixs, j ∈ own.map (·.2))
    (hg : ∀ s H C cl fp, DG (X.blk s H scope (compEnvC scope cl C X.env) fp) H0 tg t) (ht : ∀ s H C cl fp, PTsD (X.blk s H scope (compEnvC scope cl C X.env) fp) H0 W0 ifs ft)
    (he : ∀ s H C cl fp, DE (X.blk s H scope (compEnvC scope cl C X.env) fp) H0 W0 .v elt fe) (hs : ∀ x, foldedSetIterable iter X.env x = pure x) :
    DS X H0 W (.Assign [.Name y py] (.ListComp elt [⟨tg, iter, ifs, 0⟩] scope pos) spos) fun ρ => ((fi ρ).bind fun ds => (noxO (lcL (turnD t ft fe (wipeR ρ (own.map (·.2)))) ds)).bind lstD).st ρ (setF i ρ) :=
  asgF (PS.imp (ps_setLc (g := tDG X H0 (tpE tg) t) (tt := tDT X H0 W0 ft) (te := tD X H0 W0 .v fe) hc hN hy hyl hsw hi ok hg ht he hs) fun Dn σ H h => lc_rule hvs h)
end
/-! ### dict comprehensions -/
def dcL (g : D → Out (Option (D × D))) : List D → List (D × D) → Out (List (D × D))
  | [], es => .ok es
  | d :: ds, es => (g d).bind fun o => match o with
    | none => dcL g ds es
    | some (k, v) => match keyOf k with
      | some k => if es.length < sizeLine then dcL g ds (putE es k v) else .stuck
      | none => .stuck
def turnK (t : Tg) (ft : Rho → Out Bool) (fk fv : Rho → Out D) (ρ : Rho) (d : D) : Out (Option (D × D)) := match bindT t d ρ with
  | none => .stuck
  | some ρ' => (ft ρ').bind fun b => if b = true then (fk ρ').bind fun y => (fv ρ').bind fun z => .ok (some (y, z)) else .ok none
structure DcW (K : PySem.W.Frag) (H0 : Ent) (σ : L2.St) (H1 : Hp) (ρ : Rho) (U : Addr → Prop) (L : Addr) (es : List (D × D)) (H : Hp) : Prop where
  pt : Pt K H0 σ H ρ fun a => U a ∨ a = L
  sm : Same H1 H
  acc : ∃ kvs, H L = some (.dK kvs) ∧ RepK K (fun a => U a ∨ a = L) H kvs es
section
variable {X : Cx} {H0 : Ent} {W : WX}
theorem turnK_split {t : Tg} {ft : Rho → Out Bool} {fk fv : Rho → Out D} {ρ : Rho} {d : D} {o : Option (D × D)} (h : turnK t ft fk fv ρ d = .ok o) : ∃ ρ' b, bindT t d ρ = some ρ' ∧ ft ρ' = .ok b ∧ (if b = true then ∃ y z, fk ρ' = .ok y ∧ fv ρ' = .ok z ∧ o = some (y, z) else o = none) := by
  unfold turnK at h
  split at h
  · cases h
  · rename_i ρ' e
    refine ⟨ρ', ?_⟩
    cases e2 : ft ρ' with
    | exc c fs => rw [e2] at h; cases h
    | stuck => rw [e2] at h; cases h
    | ok b =>
      rw [e2] at h
      refine ⟨b, e, rfl, ?_⟩
      cases b with
      | false =>
        cases h
        rfl
      | true =>
        replace h : ((fk ρ').bind fun y => (fv ρ').bind fun z => Out.ok (some (y, z))) = .ok o := h
        cases e3 : fk ρ' with
        | exc c fs => rw [e3] at h; cases h
        | stuck => rw [e3] at h; cases h
        | ok y =>
          rw [e3] at h
          replace h : ((fv ρ').bind fun z => Out.ok (some (y, z))) = .ok o := h
          cases e4 : fv ρ' with
          | exc c fs => rw [e4] at h; cases h
          | stuck => rw [e4] at h; cases h
          | ok z =>
            rw [e4] at h
            cases h
            exact ⟨y, z, rfl, rfl, rfl⟩
theorem wipe_idem (vs : List Nat) (σ : L2.St) : L2.wipe (L2.wipe σ vs) vs = L2.wipe σ vs := wipe_get (by rw [L2.wipe_length]) fun j hj => by
  have : ∀ (us : List Nat) (σ : L2.St), j ∉ us → (L2.wipe σ us)[j]? = σ[j]? := by
    intro us
    induction us with
    | nil => intro σ _; rfl
    | cons v us ih =>
      intro σ hj
      simp only [List.mem_cons, not_or] at hj
      unfold L2.wipe
      rw [List.getElem?_set_ne (fun e => hj.1 e.symm), ih σ hj.2]
  exact this vs σ hj
theorem dc_rule {w : Bool} {t : Tg} {fi : Rho → Out (List D)} {ft : Rho → Out Bool} {fk fv : Rho → Out D} {vs : List Nat} {σ : L2.St} {H : Hp} {Q : VK} (hvs : ∀ j ∈ t.ixs, j ∈ vs)
    (h : tD X H0 W .f (fun ρ => (fi ρ).bind fun ds => (noxO (dcL (turnK t ft fk fv (wipeR ρ vs)) ds [])).bind fun es => .ok (.dict es)) σ H Q) :
    L2.tDc (tDI X H0 W w true fi) (tDG X H0 w t) (tDT X H0 W0 ft) (tD X H0 W0 .v fk) (tD X H0 W0 .v fv) vs σ H Q := by
  obtain ⟨ρ, U, P, q⟩ := h
  replace q : PostM X W .f σ H U Q ((fi ρ).bind fun ds => (noxO (dcL (turnK t ft fk fv (wipeR ρ vs)) ds [])).bind fun es => .ok (.dict es)) := q
  refine ⟨ρ, U, P, ?_⟩
  revert q
  cases fi ρ with
  | exc c fs => exact fun q => q
  | stuck => exact fun q => q
  | ok ds =>
    intro q J H1 s1 jd L hL
    replace q : PostM X W .f σ H U Q ((noxO (dcL (turnK t ft fk fv (wipeR ρ vs)) ds [])).bind fun es => .ok (.dict es)) := q
    cases etot : dcL (turnK t ft fk fv (wipeR ρ vs)) ds [] with
    | exc c fs =>
      rw [etot] at q
      exact q.elim
    | stuck =>
      rw [etot] at q
      exact q.elim
    | ok tot =>
      rw [etot] at q
      replace q : PostM X W .f σ H U Q (.ok (.dict tot)) := q
      have P1 := P.same s1
      have hLU : ¬ U L := P1.fresh hL
      have k1 : Kp U (fun a => U a ∨ a = L) H1 (upd H1 L (.dK [])) := ⟨fun a o e _ => same_new hL a o e, fun a z => z.imp id fun e => by rw [e]; exact hL⟩
      have P2 : Pt X.K H0 (L2.wipe σ vs) (upd H1 L (.dK [])) (wipeR ρ vs) fun a => U a ∨ a = L := by
        refine (P1.wipe vs).kp k1 (fun a z => .inl z) (fun i d a _ _ o e => same_new hL a o e) (fun a z => ?_) (P1.s0.trans (same_new hL))
        rcases z with z | rfl
        · obtain ⟨o, e, m⟩ := P1.ud a z
          exact ⟨o, same_new hL a o e, m⟩
        · exact ⟨_, upd_same, .inr (.inl ⟨_, rfl⟩)⟩
      refine ⟨fun i m H' => m = ds.length - i ∧ i ≤ ds.length ∧ ∃ es, dcL (turnK t ft fk fv (wipeR ρ vs)) (ds.drop i) es = .ok tot ∧ DcW X.K H0 (L2.wipe σ vs) H1 (wipeR ρ vs) U L es H',
        ⟨ds.length, by simp, Nat.zero_le _, [], by simpa using etot, P2, same_new hL, [], upd_same, .nil⟩, ?_⟩
      rintro i m H3 ⟨rfl, hi, es, er, w⟩
      have kb : Kb true U H1 (fun a => U a ∨ a = L) H3 := ⟨fun p hp => w.pt.fresh hp, fun a z => z.imp id fun e => by rw [e]; exact hL, w.sm⟩
      obtain ⟨jstop, jgo⟩ := jd _ _ kb
      by_cases hlt : i < ds.length
      · obtain ⟨j1, j2⟩ := jgo i _ (List.getElem?_eq_getElem hlt)
        have edrop : ds.drop i = ds[i] :: ds.drop (i + 1) := List.drop_eq_getElem_cons hlt
        rw [edrop] at er
        unfold dcL at er
        cases eg : turnK t ft fk fv (wipeR ρ vs) ds[i] with
        | exc c fs => rw [eg] at er; cases er
        | stuck => rw [eg] at er; cases er
        | ok o =>
        rw [eg] at er
        obtain ⟨ρ', bb, eb, et, ee⟩ := turnK_split eg
        refine .inr ⟨j1, fun H' => i + 1 ≤ ds.length ∧ ∃ es, dcL (turnK t ft fk fv (wipeR ρ vs)) (ds.drop (i + 1)) es = .ok tot ∧ DcW X.K H0 (L2.wipe σ vs) H1 (wipeR ρ vs) U L es H', fun H' h => ⟨ds.length - (i + 1), by omega, rfl, h.1, h.2⟩, fun x H4 hy => ?_⟩
        obtain ⟨s4, rx⟩ := j2 x H4 hy
        have P4 := w.pt.same s4
        obtain ⟨kvs, hacc, racc⟩ := w.acc
        refine ⟨wipeR ρ vs, _, ds[i], ρ', P4, rx, eb, fun σ5 P5 k5 => ⟨?_, ρ', _, P5, ?_⟩⟩
        · have l5 : σ5.length = (L2.wipe σ vs).length := by
            have h1 := P5.len
            have h2 := P4.len
            have h3 : ρ'.length = (wipeR ρ vs).length := bindT_len eb
            omega
          rw [wipe_get l5.symm (fun j hj => k5 j fun z => hj (hvs j z))]
          exact wipe_idem vs σ
        · rw [et]
          intro H5 s5
          have keep5 : H5 L = some (.dK kvs) := s5 _ _ (s4 _ _ hacc)
          cases bb with
          | false =>
            simp only [Bool.false_eq_true, if_false] at ee ⊢
            subst ee
            exact ⟨hlt, es, er, ⟨(w.pt.same s4).same s5, w.sm.trans (s4.trans s5), kvs, keep5, racc.mono (Kp.same (s4.trans s5))⟩⟩
          | true =>
            simp only [if_true] at ee ⊢
            obtain ⟨y, z, ey, ez, rfl⟩ := ee
            replace er : (match keyOf y with
              | some k => if es.length < sizeLine then dcL (turnK t ft fk fv (wipeR ρ vs)) (ds.drop (i + 1)) (putE es k z) else .stuck
              | none => .stuck) = .ok tot := er
            split at er
            case h_2 => cases er
            rename_i key hkey
            split at er
            case isFalse => cases er
            rename_i hz
            refine ⟨ρ', _, P5.same s5, ?_⟩
            rw [ey]
            intro yk H6 s6 ry
            refine ⟨ρ', _, (P5.same s5).same s6, ?_⟩
            rw [ez]
            intro yv H7 s7 rz
            have keep7 : H7 L = some (.dK kvs) := s7 _ _ (s6 _ _ keep5)
            have s47 := s4.trans (s5.trans (s6.trans s7))
            obtain ⟨e1, e2⟩ := keyOf_brep hkey (.inl ry)
            refine ⟨kvs, key, e1, keep7, by rw [racc.length]; exact hz, hlt, putE es key z, er, ?_⟩
            have k7 : Kp (fun a => U a ∨ a = L) (fun a => U a ∨ a = L) H7 (upd H7 L (.dK (putK kvs key yv))) := ⟨fun a o e n => by
              rw [upd_ne (fun z => n (.inr z))]
              exact e, fun a z => .inl z⟩
            refine ⟨(w.pt.same s47).kp k7 (fun a z => z) (fun j d a h1 h2 o e => ?_) (fun a z => ?_) ?_, ?_, putK kvs key yv, upd_same, ?_⟩
            · have hne : a ≠ L := by
                rintro rfl
                have hs := (P1.wipe vs).sl j
                rw [h1, h2] at hs
                obtain ⟨a', e1, hu, _⟩ := hs
                cases e1
                exact hLU hu
              rw [upd_ne hne]
              exact e
            · by_cases hz : a = L
              · rw [hz]
                exact ⟨_, upd_same, .inr (.inl ⟨_, rfl⟩)⟩
              · obtain ⟨o, e, m⟩ := (w.pt.same s47).ud a z
                exact ⟨o, by rw [upd_ne hz]; exact e, m⟩
            · intro a o e
              have hne : a ≠ L := by
                rintro rfl
                have := P1.s0 _ _ e
                rw [hL] at this
                cases this
              rw [upd_ne hne]
              exact s47 _ _ (w.pt.s0 _ _ e)
            · intro a o e
              have hne : a ≠ L := by
                rintro rfl
                rw [hL] at e
                cases e
              rw [upd_ne hne]
              exact s47 _ _ (w.sm _ _ e)
            · exact RepK.put (rz.mono k7) ((racc.mono (Kp.same s47)).mono k7)
      · have e : i = ds.length := by omega
        subst e
        rw [List.drop_length] at er
        cases er
        obtain ⟨kvs, hacc, racc⟩ := w.acc
        exact .inl ⟨jstop, q _ _ (s1.trans w.sm) ⟨L, rfl, s1.free hL, .inl ⟨kvs, hacc, racc⟩⟩⟩
theorem de_dc {kx vx tg iter : Expr} {ifs : List Expr} {scope : Scope} {own : List (Str × Nat)} {pos : Pos} {t : Tg} {fi : Rho → Out (List D)} {ft : Rho → Out Bool} {fk fv : Rho → Out D} (hc : X.calm = true) (hN : X.N.Nodup) (hi : DI X H0 W true tg iter fi) (ok : BlkOk X.N X.env.scope scope own) (hvs : ∀ j ∈ t.ixs, j ∈ own.map (·.2))
    (hg : ∀ s H C cl fp, DG (X.blk s H scope (compEnvC scope cl C X.env) fp) H0 tg t) (ht : ∀ s H C cl fp, PTsD (X.blk s H scope (compEnvC scope cl C X.env) fp) H0 W0 ifs ft)
    (hk : ∀ s H C cl fp, DE (X.blk s H scope (compEnvC scope cl C X.env) fp) H0 W0 .v kx fk) (he : ∀ s H C cl fp, DE (X.blk s H scope (compEnvC scope cl C X.env) fp) H0 W0 .v vx fv) (hs : ∀ x, foldedSetIterable iter X.env x = pure x) :
    DE X H0 W .f (.DictComp kx vx [⟨tg, iter, ifs, 0⟩] scope pos) fun ρ => (fi ρ).bind fun ds => (noxO (dcL (turnK t ft fk fv (wipeR ρ (own.map (·.2)))) ds [])).bind fun es => .ok (.dict es) :=
  PE.imp (L2.pe_dc (g := tDG X H0 (tpE tg) t) (tt := tDT X H0 W0 ft) (tk := tD X H0 W0 .v fk) (tv := tD X H0 W0 .v fv) hc hN hi ok hg ht hk he hs) fun σ H Q h => dc_rule hvs h
end
/-! ## d.get -/
def getD1 : D → D → Out D
  | .dict es, k => match keyOf k with
    | some k => .ok ((lookE es k).getD .none)
    | none => .stuck
  | _, _ => .stuck
def getD2 : D → D → D → Out D
  | .dict es, k, d => match keyOf k with
    | some k => .ok ((lookE es k).getD d)
    | none => .stuck
  | _, _, _ => .stuck
section
variable {X : Cx} {H0 : Ent} {W : WX}
theorem tD.here {m : Md} {f : Rho → Out D} {σ : L2.St} {H : Hp} {ρ : Rho} {U : Addr → Prop} {Q : VK} (P : Pt X.K H0 σ H ρ U) (h : PostM X W m σ H U Q (f ρ)) : tD X H0 W m f σ H Q := ⟨ρ, U, P, h⟩
theorem PostM.first {m ma : Md} {σ : L2.St} {H : Hp} {ρ : Rho} {U : Addr → Prop} (P : Pt X.K H0 σ H ρ U) {r : Out D} {k : D → Out D} {Q Q' : VK} (q : PostM X W m σ H U Q (r.bind k))
    (h : ∀ d v H', Same H H' → Pt X.K H0 σ H' ρ U → RepM X.K U H H' v d ma → PostM X W m σ H' U Q (k d) → Q' v H') : PostM X W ma σ H U Q' r := by
  cases r with
  | ok d => exact fun v H' s rv => h d v H' s (P.same s) rv (PostM.later s q)
  | exc c fs => exact q
  | stuck => exact q
theorem dget_is {U : Addr → Prop} {H : Hp} {v u : V} {es : List (D × D)} {k : D} {key : Key} (r : BRep X.K U H v (.dict es)) (hi : insB es = false) (hk : keyOf k = some key) (rk : BRep X.K U H u k) :
    ∃ a kvs, v = .ref a ∧ Rd H a (.dK kvs) ∧ u = kV key ∧ ((lookE es key = none ∧ valV kvs key = none) ∨ ∃ w d, lookE es key = some d ∧ valV kvs key = some w ∧ Rep X.K U H w d) := by
  obtain ⟨a, kvs, rfl, h1, t1⟩ := r.dct hi
  obtain ⟨rfl, rfl⟩ := keyOf_brep hk rk
  exact ⟨a, kvs, rfl, h1, rfl, t1.look key⟩
theorem de_get2 {o e f : Expr} {apos cpos : Pos} {fo fe ff : Rho → Out D} (hu : X.A.units + 64 < cLine) (ho : DE X H0 W .b o fo) (he : DE X H0 W .b e fe) (hf : DE X H0 W .v f ff) (m : M2 X o "get" apos e f cpos) :
    DE X H0 W .v (.Call (.Attribute o "get" apos) [e, f] [] cpos) fun ρ => (fo ρ).bind fun x => match x with
      | .dict es => if insB es = true then .stuck else (fe ρ).bind fun y => (ff ρ).bind fun z => getD2 (.dict es) y z
      | _ => .stuck :=
  PE.imp (pe_dget2 (by omega) ho he hf m) fun σ H Q ⟨ρ, U, P, q⟩ => ⟨ρ, U, P, PostM.first (ma := .b) P q fun d v H1 s1 P1 r1 q1 => by
    cases d with
    | dict es =>
      have r1' : BRep X.K U H1 v (.dict es) := r1
      replace q1 : PostM X W .v σ H1 U Q (if insB es = true then .stuck else (fe ρ).bind fun y => (ff ρ).bind fun z => getD2 (.dict es) y z) := q1
      split at q1
      · exact q1.elim
      rename_i hins
      have hins : insB es = false := by simpa using hins
      obtain ⟨a, kvs, rfl, h1, t1⟩ := r1'.dct hins
      refine ⟨a, rfl, .inl ⟨kvs, h1⟩, ρ, U, P1, PostM.first (ma := .b) P1 (show PostM X W .v σ H1 U Q ((fe ρ).bind fun y => (ff ρ).bind fun z => getD2 (.dict es) y z) from q1) fun dk u H2 s2 P2 r2 q2 => ?_⟩
      refine ⟨ρ, U, P2, PostM.first (ma := .v) P2 q2 fun dz w H3 s3 P3 r3 q3 => ?_⟩
      replace q3 : PostM X W .v σ H3 U Q (match keyOf dk with
        | some k => .ok ((lookE es k).getD dz)
        | none => .stuck) := q3
      split at q3
      · rename_i key hk
        have r1'' : BRep X.K U H3 (.ref a) (.dict es) := BRep.same (s2.trans s3) r1'
        have r2' : BRep X.K U H3 u dk := BRep.same s3 r2
        obtain ⟨a', kvs', e1, h1', e2, hl⟩ := dget_is r1'' hins hk r2'
        cases e1
        rcases hl with ⟨l1, l2⟩ | ⟨x, dx, l1, l2, rx⟩
        · refine ⟨none, .inl ⟨kvs', key, h1', e2, l2.symm⟩, ?_⟩
          rw [l1] at q3
          exact q3.val r3
        · refine ⟨some x, .inl ⟨kvs', key, h1', e2, l2.symm⟩, ?_⟩
          rw [l1] at q3
          exact q3.val rx
      · exact q3.elim
    | _ => exact q1.elim⟩
end
end Mp
namespace Mp
open PySem PySem.Spec PyProof.Rows L2
/-! ## calls of own defs -/
def PostF (mg : Str → Option Value) (K : PySem.W.Frag) (B : Addr → Prop) (H : Hp) (Q : VK) (E : XK) : Out D → Prop
  | .ok d => ∀ v H', Same H H' → Rep K B H' v d → Q v H'
  | .exc c fs => ∀ cls dd H', Same H H' → ExR mg K H' c fs cls dd → E cls dd H'
  | .stuck => False
def spG (mg : Str → Option Value) (K : PySem.W.Frag) (n : Nat) (g : List D → Out D) : Sp := fun vs H Q E => ∃ (B : Addr → Prop) (ds : List D), (∀ a, B a → ∃ o, H a = some o ∧ MuO o) ∧ Reps K B H vs ds ∧ ds.length = n ∧ PostF mg K B H Q E (g ds)
mutual
def flat : D → Bool
  | .list _ => false
  | .dict _ => false
  | .tuple ds => flatL ds
  | _ => true
def flatL : List D → Bool
  | [] => true
  | d :: ds => flat d && flatL ds
end
section
variable {K : PySem.W.Frag} {U : Addr → Prop} {H : Hp}
theorem notMu_tup {a : Addr} {xs : List V} (hu : ∀ a, U a → ∃ o, H a = some o ∧ MuO o) (h : Rd H a (.tup xs)) : ¬ U a := fun z => by
  obtain ⟨o, e, m⟩ := hu a z
  rcases h with h | ⟨q, h⟩
  · rw [h] at e
    cases e
    rcases m with ⟨_, m⟩ | ⟨_, m⟩ | ⟨_, _, _, m⟩ <;> cases m
  · rw [h] at e
    cases e
    rcases m with ⟨_, m⟩ | ⟨_, m⟩ | ⟨_, _, _, m⟩ <;> cases m
mutual
theorem Rep.flat {B : Addr → Prop} (hu : ∀ a, U a → ∃ o, H a = some o ∧ MuO o) : ∀ {v : V} {d : D}, Rep K B H v d → flat d = true → Rep K U H v d
  | _, _, .non, _ => .non
  | _, _, .bl b, _ => .bl b
  | _, _, .int i, _ => .int i
  | _, _, .str x, _ => .str x
  | _, _, .tup h r, f => .tup (h.imp (fun q => ⟨notMu_tup hu q.2.rd, q.2⟩) id) (Reps.flat hu r (by simpa [Mp.flat] using f))
  | _, _, .lst _ _ _, f => by simp [Mp.flat] at f
  | _, _, .dct _ _ _, f => by simp [Mp.flat] at f
  | _, _, .ins _ _ _ _, f => by simp [Mp.flat] at f
theorem Reps.flat {B : Addr → Prop} (hu : ∀ a, U a → ∃ o, H a = some o ∧ MuO o) : ∀ {vs : List V} {ds : List D}, Reps K B H vs ds → flatL ds = true → Reps K U H vs ds
  | _, _, .nil, _ => .nil
  | _, _, .cons r t, f => by
    simp only [flatL, Bool.and_eq_true] at f
    exact .cons (Rep.flat hu r f.1) (Reps.flat hu t f.2)
end
theorem BReps.rep0 : ∀ {vs : List V} {ds : List D}, BReps K U H vs ds → Reps K NoU H vs ds
  | _, _, .nil => .nil
  | _, _, .cons r t => .cons r.rep0 (BReps.rep0 t)
/-- a root that may be owned -/
def rooty : D → Bool
  | .list _ => true
  | .dict _ => true
  | _ => false
theorem BReps.own : ∀ {vs : List V} {ds : List D}, BReps K U H vs ds → ds.any rooty = false → Reps K U H vs ds
  | _, _, .nil, _ => .nil
  | _, d :: _, .cons r t, h => by
    simp only [List.any_cons, Bool.or_eq_false_iff] at h
    refine .cons ?_ (BReps.own t h.2)
    rcases r with r | ⟨a, e, hu, o⟩
    · exact r
    · cases d with
      | list _ => simp [rooty] at h
      | dict _ => simp [rooty] at h
      | _ => exact o.elim
end
/-- a call whose arguments may be owned: what comes back then has no list, no dict -/
def callB (g : List D → Out D) (ds : List D) : Out D := (g ds).bind fun d => if ds.any rooty = true ∧ flat d = false then .stuck else .ok d
section
variable {X : Cx} {H0 : Ent} {W : WX} {CX : CXT} {k n : Nat} {f : Addr} {fd : FuncData} {ps : List Str} {g : List D → Out D} {x : Str} {p pos : Pos} {e : Expr} {es : List Expr} {fa : Rho → Out (List D)}
theorem nAr {ds : List D} (hg : ∀ ds, ds.length ≠ n → g ds = .stuck) {P : Out D → Prop} (hP : P .stuck → False) (q : P (g ds)) : ds.length = n := by
  by_cases h : ds.length = n
  · exact h
  · rw [hg ds h] at q
    exact (hP q).elim
theorem de_call (F : FnOk X.prog X.w X.K X.mg X.base (L2.CX X.prog X.w) k f fd ps (spG X.mg X.K n g)) (hgn : ∀ ds, ds.length ≠ n → g ds = .stuck) (hr : Room k X.A) (hg : Gl X x) (hm : X.mg x = some (.ref f)) (hk : PySem.W.keepIn X.K (.ref f) = true) (hb : Binds X.K fd ps []) (tk : Takes X W)
    (ha : DA X H0 W false (e :: es) fa) (hdb : (x == ("__debug__" : Str)) = false) (he : starEach (e :: es) X.env = (false, eval e X.env) :: starEach es X.env) (hpl : (backTo pos (starEach es X.env)).any (·.1) = false) :
    DE X H0 W .v (.Call (.Name x p) (e :: es) [] pos) fun ρ => (fa ρ).bind g :=
  PE.imp (pe_callS F hr hg hm hk hb (fun σ => passAt tk σ) ha hdb he hpl) fun σ H Q ⟨ρ, U, P, q⟩ => by
    refine ⟨ρ, U, P, ?_⟩
    replace q : PostM X W .v σ H U Q ((fa ρ).bind g) := q
    revert q
    cases fa ρ with
    | exc c fs => exact fun q => q
    | stuck => exact fun q => q
    | ok ds =>
      intro q vs H1 s1 r1
      replace q : PostM X W .v σ H U Q (g ds) := q
      refine ⟨U, ds, (P.same s1).ud, r1, nAr hgn (P := PostM X W .v σ H U Q) (fun z => z) q, ?_⟩
      revert q
      cases g ds with
      | exc c fs => exact fun q cls dd H' s' z => q cls dd H' (s1.trans s') z
      | stuck => exact fun q => q
      | ok d => exact fun q v H' s' r => q v H' (s1.trans s') r
theorem de_callBr (F : FnOk X.prog X.w X.K X.mg X.base (L2.CX X.prog X.w) k f fd ps (spG X.mg X.K n g)) (hgn : ∀ ds, ds.length ≠ n → g ds = .stuck) (hr : Room k X.A) (hg : Gl X x) (hm : X.mg x = some (.ref f)) (hk : PySem.W.keepIn X.K (.ref f) = true) (hb : Binds X.K fd ps []) (tk : Takes X W)
    (ha : DA X H0 W true (e :: es) fa) (hdb : (x == ("__debug__" : Str)) = false) (he : starEach (e :: es) X.env = (false, eval e X.env) :: starEach es X.env) (hpl : (backTo pos (starEach es X.env)).any (·.1) = false) :
    DE X H0 W .v (.Call (.Name x p) (e :: es) [] pos) fun ρ => (fa ρ).bind (callB g) :=
  PE.imp (pe_callS F hr hg hm hk hb (fun σ => passAt tk σ) ha hdb he hpl) fun σ H Q ⟨ρ, U, P, q⟩ => by
    refine ⟨ρ, U, P, ?_⟩
    replace q : PostM X W .v σ H U Q ((fa ρ).bind (callB g)) := q
    revert q
    cases fa ρ with
    | exc c fs => exact fun q => q
    | stuck => exact fun q => q
    | ok ds =>
      intro q vs H1 s1 r1
      replace q : PostM X W .v σ H U Q ((g ds).bind fun d => if ds.any rooty = true ∧ flat d = false then .stuck else .ok d) := q
      have r1 : BReps X.K U H1 vs ds := r1
      have hn : ds.length = n := by
        by_cases h : ds.length = n
        · exact h
        · rw [hgn ds h] at q
          exact q.elim
      by_cases hroot : ds.any rooty = true
      · refine ⟨NoU, ds, fun a z => z.elim, r1.rep0, hn, ?_⟩
        revert q
        cases g ds with
        | exc c fs => exact fun q cls dd H' s' z => q cls dd H' (s1.trans s') z
        | stuck => exact fun q => q
        | ok d =>
          intro q v H' s' r
          replace q : PostM X W .v σ H U Q (if ds.any rooty = true ∧ flat d = false then .stuck else .ok d) := q
          split at q
          · exact q.elim
          · rename_i hz
            have hfl : flat d = true := by
              cases hf : flat d with
              | true => rfl
              | false => exact absurd ⟨hroot, hf⟩ hz
            exact q v H' (s1.trans s') (Rep.flat ((P.same s1).same s').ud r hfl)
      · have hroot : ds.any rooty = false := by simpa using hroot
        refine ⟨U, ds, (P.same s1).ud, r1.own hroot, hn, ?_⟩
        revert q
        cases g ds with
        | exc c fs => exact fun q cls dd H' s' z => q cls dd H' (s1.trans s') z
        | stuck => exact fun q => q
        | ok d =>
          intro q v H' s' r
          replace q : PostM X W .v σ H U Q (if ds.any rooty = true ∧ flat d = false then .stuck else .ok d) := q
          rw [if_neg (by rw [hroot]; simp)] at q
          exact q v H' (s1.trans s') r
end
/-! ## x[k] = v, of what is owned -/
def putD (d k v : D) : Option D := match d with
  | .list ds => match k with
    | .int i => (ixN ds.length i).map fun j => .list (ds.set j v)
    | _ => none
  | .dict es => match keyOf k with
    | some key => if es.length < sizeLine then some (.dict (putE es key v)) else none
    | none => none
  | _ => none
def putS (i : Nat) (ρ : Rho) (k v : D) : SOut := match ρ[i]? with
  | some (some (true, d)) => match putD d k v with
    | some d' => .nx (ρ.set i (some (true, d')))
    | none => .stuck
  | _ => .stuck
theorem PS.or {X : Cx} {st : Stmt} {t t' : TS} (h : PS X st t) (h' : PS X st t') : PS X st fun Dn σ H => t Dn σ H ∨ t' Dn σ H := ⟨fun pins s σ H Dn I q => q.elim (h.run pins s σ H Dn I) (h'.run pins s σ H Dn I)⟩
section
variable {X : Cx} {H0 : Ent} {W : WX}
def isOwn (i : Nat) (ρ : Rho) : Option D := match ρ[i]? with
  | some (some (true, d)) => if isIns d = true then none else some d
  | _ => none
theorem ds_put {i : Nat} {x : Str} {ke ve : Expr} {fk fv : Rho → Out D} {p p2 pos : Pos} (hu : X.A.units + 64 < cLine) (hN : X.N[i]? = some x) (hv : Vis X.env.scope x) (hd : (x == ("__debug__" : Str)) = false) (hcd : (x == ("__classdict__" : Str)) = false)
    (hk : DE X H0 W .v ke fk) (hve : DE X H0 W .v ve fv) (hs : swapsWith ve (some (.Subscript (.Name x p) ke p2)) pos.line X.env = pure false)
    (hasg : ∀ v, assign (.Subscript (.Name x p) ke p2) X.env v = (do
      let ov ← holding [v] (eval (.Name x p) X.env)
      let iv ← holding [v, ov] (eval ke X.env)
      standAt p2
      holding [v, ov, iv] (setItem ov iv v)
      release [v, ov, iv] [])) :
    DS X H0 W (.Assign [.Subscript (.Name x p) ke p2] ve pos) fun ρ => match isOwn i ρ with
      | some _ => (fv ρ).st ρ fun v => (fk ρ).st ρ fun k => putS i ρ k v
      | none => .stuck :=
  PS.imp (PS.or (ps_dput (by omega) (pe_var hN hv hd hcd) hk hve hs) (ps_asg hve (pg_sub (pe_var hN hv hd hcd) hk set_list hasg) hs rfl rfl)) fun Dn σ H ⟨ρ, U, P, q⟩ => by
    replace q : PostS X H0 W Dn H U (match isOwn i ρ with
      | some _ => (fv ρ).st ρ fun v => (fk ρ).st ρ fun k => putS i ρ k v
      | none => .stuck) := q
    unfold isOwn at q
    cases hi : ρ[i]? with
    | none => rw [hi] at q; exact q.elim
    | some o =>
    rw [hi] at q
    cases o with
    | none => exact q.elim
    | some bd =>
    obtain ⟨b, d⟩ := bd
    cases b with
    | false => exact q.elim
    | true =>
    cases hins : isIns d with
    | true =>
      simp only [hins, if_true] at q
      exact q.elim
    | false =>
    replace q : PostS X H0 W Dn H U ((fv ρ).st ρ fun v => (fk ρ).st ρ fun k => putS i ρ k v) := by
      simpa only [hins, Bool.false_eq_true, if_false] using q
    have hs := P.sl i
    rw [hi] at hs
    obtain ⟨a, e1, hua, h0, ow⟩ := hs
    cases d with
    | dict es =>
      have ow' : ∃ kvs, H a = some (.dK kvs) ∧ RepK X.K U H kvs es := by
        rcases ow with ow | ⟨_, _, _, _, _, z, _⟩
        · exact ow
        · subst z
          cases hins
      obtain ⟨kvs, e2, rs⟩ := ow'
      refine .inl ⟨ρ, U, P, PostS.expr (m := .v) P q fun dv v H1 _ s1 P1 rv q1 => ⟨.ref a, e1, ρ, U, P1, PostS.expr (m := .v) P1 q1 fun dk kv H2 _ s2 P2 rk q2 => ?_⟩⟩
      unfold putS at q2
      rw [hi] at q2
      replace q2 : PostS X H0 W Dn H2 U (match putD (.dict es) dk dv with
        | some d' => .nx (ρ.set i (some (true, d')))
        | none => .stuck) := q2
      unfold putD at q2
      cases hk : keyOf dk with
      | none =>
        simp only [hk] at q2
        exact q2.elim
      | some key =>
        simp only [hk] at q2
        by_cases hz : es.length < sizeLine
        · rw [if_pos hz] at q2
          replace q2 : PostS X H0 W Dn H2 U (.nx (ρ.set i (some (true, .dict (putE es key dv))))) := q2
          obtain ⟨ek, _⟩ := keyOf_brep hk (.inl rk)
          have l := rs.length
          have s12 := s1.trans s2
          obtain ⟨P3, k3⟩ := P2.write (d' := .dict (putE es key dv)) (o := .dK (putK kvs key v)) hi e1 (.inr (.inl ⟨_, rfl⟩)) fun k => .inl ⟨_, upd_same, RepK.put ((Rep.mono (Kp.same s2) rv).mono k) ((rs.mono (Kp.same s12)).mono k)⟩
          exact ⟨a, _, rfl, .inl ⟨kvs, key, s12 _ _ e2, ek, by omega, rfl⟩, q2 _ _ U k3 P3⟩
        · rw [if_neg hz] at q2
          exact q2.elim
    | list ds =>
      obtain ⟨vs, e2, rs⟩ := ow
      refine .inr ⟨ρ, U, P, PostS.expr (m := .v) P q fun dv v H1 _ s1 P1 rv q1 => ⟨.ref a, e1, ρ, U, P1, PostS.expr (m := .v) P1 q1 fun dk kv H2 _ s2 P2 rk q2 => ?_⟩⟩
      unfold putS at q2
      rw [hi] at q2
      replace q2 : PostS X H0 W Dn H2 U (match putD (.list ds) dk dv with
        | some d' => .nx (ρ.set i (some (true, d')))
        | none => .stuck) := q2
      cases dk with
      | int m =>
        have rk : Rep X.K U H2 kv (.int m) := rk
        cases rk
        cases hj : ixN ds.length m with
        | none =>
          simp only [putD, hj] at q2
          exact q2.elim
        | some j =>
          simp only [putD, hj] at q2
          replace q2 : PostS X H0 W Dn H2 U (.nx (ρ.set i (some (true, .list (ds.set j dv))))) := q2
          have l := rs.length
          have s12 := s1.trans s2
          obtain ⟨P3, k3⟩ := P2.write (d' := .list (ds.set j dv)) (o := .lst (vs.set j v)) hi e1 (.inl ⟨_, rfl⟩) fun k => ⟨_, upd_same, Reps.set ((Rep.mono (Kp.same s2) rv).mono k) ((rs.mono (Kp.same s12)).mono k) j⟩
          exact ⟨a, vs, m, j, rfl, rfl, s12 _ _ e2, by rw [l]; exact hj, q2 _ _ U k3 P3⟩
      | _ => exact q2.elim
    | _ => exact ow.elim
/-! ## x op= e, ints -/
def augM (x y : D) : Out D := match x, y with
  | .int i, .int j => if (smallI i || smallI j) = true then .ok (.int (i * j)) else .stuck
  | _, _ => .stuck
def augD (op : Operator) (x y : D) : Out D := match op with
  | .Mult => augM x y
  | .Add => match x, y with
    | .int i, .int j => .ok (.int (i + j))
    | _, _ => .stuck
  | .Sub => match x, y with
    | .int i, .int j => .ok (.int (i - j))
    | _, _ => .stuck
  | _ => .stuck
theorem ds_aug {i : Nat} {x : Str} {e : Expr} {op : Operator} {fe : Rho → Out D} {h : Int → Int → Int} {p pos : Pos} (hip : PIp X op (ipI h)) (hop : ∀ x y, augD op x y = match x, y with
      | .int i, .int j => .ok (.int (h i j))
      | _, _ => .stuck) (hN : X.N.Nodup) (hi : X.N[i]? = some x) (hx : Loc X.env.scope x) (hf : X.fn x = true ∨ X.env.scope.names.lookup x = some .local) (he : DE X H0 W .v e fe) :
    DS X H0 W (.AugAssign (.Name x p) op e pos) fun ρ => match getV ρ i with
      | .ok d => (fe ρ).st ρ fun y => (augD op d y).st ρ (setV i ρ)
      | _ => .stuck :=
  PS.imp (ps_aug hN hi hx he hip hf) fun Dn σ H ⟨ρ, U, P, q⟩ => by
    replace q : PostS X H0 W Dn H U (match getV ρ i with
      | .ok d => (fe ρ).st ρ fun y => (augD op d y).st ρ (setV i ρ)
      | _ => .stuck) := q
    have z := P.sl i
    unfold getV at q
    cases hi2 : ρ[i]? with
    | none => rw [hi2] at q; exact q.elim
    | some o =>
    rw [hi2] at q z
    cases o with
    | none => exact q.elim
    | some bd =>
    obtain ⟨b, d⟩ := bd
    cases b with
    | true => exact q.elim
    | false =>
    obtain ⟨v, e1, rv⟩ := z
    replace q : PostS X H0 W Dn H U ((fe ρ).st ρ fun y => (augD op d y).st ρ (setV i ρ)) := q
    refine ⟨v, e1, ρ, U, P, PostS.expr (m := .v) P q fun dy y H1 _ s1 P1 ry q1 => ?_⟩
    rw [hop] at q1
    cases d with
    | int a => cases dy with
      | int c =>
        have ry : Rep X.K U H1 y (.int c) := ry
        cases rv
        cases ry
        exact ⟨a, c, rfl, rfl, q1 _ H1 U Kp.rfl (P1.set i (.int _))⟩
      | _ => exact q1.elim
    | _ => cases dy <;> exact q1.elim
end
/-! ## a def's body gives the def -/
def rho0 (n : Nat) (ds : List D) : Rho := ds.map (fun d => some (false, d)) ++ List.replicate (n - ds.length) none
theorem start_sl {K : PySem.W.Frag} {H0 : Ent} {B : Addr → Prop} {H : Hp} {N : List Str} : ∀ {vs : List V} {ds : List D} (m : Nat), Reps K B H vs ds → ∀ (i : Nat), SlotR K H0 B H ((vs.map some ++ List.replicate m none : List (Option V))[i]?) ((ds.map (fun d => some (false, d)) ++ List.replicate m none : Rho)[i]?)
  | _, _, m, .nil, i => by
    simp only [List.map_nil, List.nil_append, List.getElem?_replicate]
    split
    · rename_i h
      trivial
    · trivial
  | _, _, m, .cons r t, 0 => ⟨_, rfl, r⟩
  | _, _, m, .cons r t, i + 1 => start_sl (N := N) m t i
/-- the function's answer from its body's -/
def SOut.fin : SOut → Out D
  | .nx _ => .ok .none
  | .ret d => .ok d
  | .exc c fs _ => .exc c fs
  | _ => .stuck
theorem fn_ok {P : Program} {w : World} {K : PySem.W.Frag} {mg : Str → Option Value} {base : Heap} {x qual : Str} {params : Arguments} {body : List Stmt} {scope : Scope} {f : Addr} {fd : FuncData} {N ps : List Str} {k : Nat} {g : List D → Out D} {fb : Rho → SOut} {dvs : List V} {kws : List (Str × V)}
    (F : FunD K x qual params body scope dvs kws f fd) (S : FnScope N ps scope) (hg : ∀ ds, ds.length = ps.length → g ds = (fb (rho0 N.length ds)).fin)
    (hb : ∀ (cdv : Value) (A : Around) (outer : List Env) (s : Shared) (H : Hp) (E : XK) (H0 : Ent), Room k (A.deeper (envOfC qual scope s.heap.objs.size f cdv)) → DSs (cxOf (L2.CX P w) P w K mg base N qual scope f cdv A outer s H E) H0 (fun cls dd _ H' => E cls dd H') body fb) :
    FnOk P w K mg base (L2.CX P w) (k + 1) f fd ps (spG mg K ps.length g) := by
  refine F.ok S (fun vs H Q E ⟨B, ds, _, r, hl, _⟩ => by rw [Reps.length r]; exact hl) fun cdv A outer s H vs Q E hr ⟨B, ds, hB, r, hl, q⟩ => ?_
  refine ⟨_, hb cdv A outer s H E ⟨H, B⟩ hr, rho0 N.length ds, B, ?_, ?_⟩
  · have lv := Reps.length r
    have hpl : ps.length ≤ N.length := by have := congrArg List.length S.pre; rw [List.length_take] at this; omega
    refine ⟨?_, fun i => ?_, fun i j d e a h1 => ?_, hB, fun a z => z, fun a z => (hB a z).imp fun o e => e.1, Same.refl H⟩
    · unfold L2.start rho0
      rw [List.length_append, List.length_append, List.length_map, List.length_map, List.length_replicate, List.length_replicate, lv]
    · have := start_sl (N := N) (H0 := ⟨H, B⟩) (N.length - vs.length) r i
      unfold L2.start rho0
      rw [lv] at this ⊢
      exact this
    · have no : ∀ (ds : List D) (m i : Nat) (d : D), ((ds.map (fun d => some (false, d)) ++ List.replicate m none : Rho)[i]?) = some (some (true, d)) → False := by
        intro ds
        induction ds with
        | nil =>
          intro m i d h
          simp only [List.map_nil, List.nil_append, List.getElem?_replicate] at h
          split at h <;> cases h
        | cons e ds ih =>
          intro m i d h
          cases i with
          | zero => cases h
          | succ i => exact ih m i d h
      exact (no _ _ _ _ h1).elim
  · rw [hg ds hl] at q
    show PostS _ _ _ _ H B (fb (rho0 N.length ds))
    revert q
    cases fb (rho0 N.length ds) with
    | nx ρ => exact fun q σ' H' U' _ P' => q .non H' P'.s0 .non
    | ret d => exact fun q v H' s' r' => q v H' s' r'
    | brk ρ => exact fun q => q.elim
    | ct ρ => exact fun q => q.elim
    | exc c fs ρ => exact fun q cls dd σ' H' U' _ P' x => q cls dd H' P'.s0 x
    | stuck => exact fun q => q.elim
end Mp
namespace Mp
open PySem PySem.Spec PyProof.Rows L2
/-! ## {k: v, ..} -/
def dspF : List D → Option (List (Key × D))
  | [] => some []
  | [_] => none
  | k :: v :: r => match keyOf k with
    | some k => (dspF r).map ((k, v) :: ·)
    | none => none
def dispD (xs : List D) : Out D := match dspF xs with
  | some ps => if ps.length ≤ 15 then .ok (.dict (mergeE [] ps)) else .stuck
  | none => .stuck
section
variable {X : Cx} {H0 : Ent} {W : WX}
def PostP (X : Cx) (W : WX) (σ : L2.St) (H : Hp) (U : Addr → Prop) (Q : List (V × V) → Hp → Prop) : Out (List D) → Prop
  | .ok ds => ∃ ps, dspF ds = some ps ∧ ∀ kvs H', Same H H' → Paired (fun (kv : Key × V) (kd : Key × D) => kv.1 = kd.1 ∧ Rep X.K U H' kv.2 kd.2) kvs ps → Q (kvs.map fun kv => (kV kv.1, kv.2)) H'
  | .exc c fs => ∀ cls dd H', Same H H' → ExR X.mg X.K H' c fs cls dd → W cls dd σ H'
  | .stuck => False
structure PPD (X : Cx) (H0 : Ent) (W : WX) (ks : List (Option Expr)) (vs : List Expr) (f : Rho → Out (List D)) : Prop where
  all : ks.all (·.isSome) = true
  len : ks.length = vs.length
  run : ∀ pos, ∃ trs, PPs X pos ks vs trs ∧ ∀ σ H ρ U Q, Pt X.K H0 σ H ρ U → PostP X W σ H U Q (f ρ) → L2.tPairs trs σ H Q
theorem ppd_nil : PPD X H0 W [] [] fun _ => .ok [] := ⟨rfl, rfl, fun pos => ⟨[], pps_nil, fun σ H ρ U Q P ⟨ps, e, q⟩ => by
  cases e
  exact q [] H (Same.refl H) .nil⟩⟩
theorem ppd_cons {k v : Expr} {ks : List (Option Expr)} {vs : List Expr} {fk fv : Rho → Out D} {g : Rho → Out (List D)} (hk : DE X H0 W .v k fk) (hv : DE X H0 W .v v fv) (h : PPD X H0 W ks vs g) :
    PPD X H0 W (some k :: ks) (v :: vs) fun ρ => (fk ρ).bind fun x => (fv ρ).bind fun y => (g ρ).bind fun r => .ok (x :: y :: r) := by
  refine ⟨by simp [h.all], by simp [h.len], fun pos => ?_⟩
  obtain ⟨trs, h1, h2⟩ := h.run pos
  refine ⟨_, pps_cons hk hv h1, fun σ H ρ U Q P q => ⟨ρ, U, P, ?_⟩⟩
  replace q : PostP X W σ H U Q ((fk ρ).bind fun x => (fv ρ).bind fun y => (g ρ).bind fun r => .ok (x :: y :: r)) := q
  revert q
  cases fk ρ with
  | exc c fs => exact fun q => q
  | stuck => exact fun q => q
  | ok dk =>
    intro q x H1 s1 r1
    refine ⟨ρ, U, P.same s1, ?_⟩
    replace q : PostP X W σ H U Q ((fv ρ).bind fun y => (g ρ).bind fun r => .ok (dk :: y :: r)) := q
    revert q
    cases fv ρ with
    | exc c fs => exact fun q cls dd H' s' z => q cls dd H' (s1.trans s') z
    | stuck => exact fun q => q
    | ok dv =>
      intro q y H2 s2 r2
      refine h2 _ _ ρ U _ ((P.same s1).same s2) ?_
      replace q : PostP X W σ H U Q ((g ρ).bind fun r => .ok (dk :: dv :: r)) := q
      revert q
      cases g ρ with
      | exc c fs => exact fun q cls dd H' s' z => q cls dd H' (s1.trans (s2.trans s')) z
      | stuck => exact fun q => q
      | ok ds =>
        intro q
        obtain ⟨ps, e, q⟩ := q
        replace e : (match keyOf dk with
          | some k => (dspF ds).map ((k, dv) :: ·)
          | none => none) = some ps := e
        split at e
        case h_2 => cases e
        rename_i key hkey
        obtain ⟨ps', e1, rfl⟩ := Option.map_eq_some_iff.mp e
        refine ⟨ps', e1, fun kvs H' s' r => ?_⟩
        obtain ⟨rfl, _⟩ := keyOf_brep hkey (.inl r1)
        exact q ((key, y) :: kvs) H' (s1.trans (s2.trans s')) (.cons ⟨rfl, r2.mono (Kp.same s')⟩ r)
theorem paired_len {α β : Type} {R : α → β → Prop} : ∀ {xs : List α} {ys : List β}, Paired R xs ys → xs.length = ys.length
  | _, _, .nil => rfl
  | _, _, .cons _ t => by rw [List.length_cons, List.length_cons, paired_len t]
theorem de_disp {ks : List (Option Expr)} {vs : List Expr} {f : Rho → Out (List D)} {pos : Pos} (h : PPD X H0 W ks vs f) (h0 : ks ≠ []) (h15 : ks.length ≤ 15) : DE X H0 W .f (.Dict ks vs pos) fun ρ => (f ρ).bind dispD := by
  obtain ⟨trs, h1, h2⟩ := h.run pos
  refine PE.imp (pe_disp h1 h.all h.len h0 h15) fun σ H Q ⟨ρ, U, P, q⟩ p hp => ?_
  have hpU : ¬ U p := P.fresh hp
  have k1 : Kp U (fun a => U a ∨ a = p) H (upd H p (.dK [])) := ⟨fun a o e _ => same_new hp a o e, fun a z => z.imp id fun e => by rw [e]; exact hp⟩
  have P2 : Pt X.K H0 σ (upd H p (.dK [])) ρ fun a => U a ∨ a = p := by
    refine P.kp k1 (fun a z => .inl z) (fun i d a _ _ o e => same_new hp a o e) (fun a z => ?_) (P.s0.trans (same_new hp))
    rcases z with z | rfl
    · obtain ⟨o, e, m⟩ := P.ud a z
      exact ⟨o, same_new hp a o e, m⟩
    · exact ⟨_, upd_same, .inr (.inl ⟨_, rfl⟩)⟩
  refine h2 _ _ ρ _ _ P2 ?_
  replace q : PostM X W .f σ H U Q ((f ρ).bind dispD) := q
  revert q
  cases f ρ with
  | exc c fs => exact fun q cls dd H' s' z => q cls dd H' ((same_new hp).trans s') z
  | stuck => exact fun q => q
  | ok ds =>
    intro q
    replace q : PostM X W .f σ H U Q (dispD ds) := q
    unfold dispD at q
    split at q
    case h_2 => exact q.elim
    rename_i ps e
    split at q
    case isFalse => exact q.elim
    rename_i hz
    refine ⟨ps, e, fun kvs H' s' r => ⟨s' _ _ upd_same, kvs, rfl, by rw [paired_len r]; exact hz, ?_⟩⟩
    have k7 : Kp (fun a => U a ∨ a = p) (fun a => U a ∨ a = p) H' (upd H' p (.dK (mergeK [] kvs))) := ⟨fun a o e n => by
      rw [upd_ne (fun z => n (.inr z))]
      exact e, fun a z => .inl z⟩
    refine q _ _ (fun a o e => ?_) ⟨p, rfl, hp, .inl ⟨mergeK [] kvs, upd_same, (merge_rep r .nil).mono k7⟩⟩
    have hne : a ≠ p := by
      rintro rfl
      rw [hp] at e
      cases e
    rw [upd_ne hne]
    exact s' _ _ (same_new hp _ _ e)
end
end Mp
namespace Mp
open PySem PySem.Spec PyProof.Rows L2
/-! ## raise X('..'), X a class of the program without __init__ -/
section
variable {X : Cx} {H0 : Ent} {W : WX}
/-- what the written part says of such a class, at C -/
def excB (K : PySem.W.Frag) (C : Addr) : Bool :=
  PySem.W.excIn K C HandSPX.veTail "ValueError.__new__" && PySem.W.keepIn K (.ref C) && (PySem.W.subIn K (.ref C) (.type "BaseException") == some true) && (PySem.W.typeIn K (.ref C) == some (.type "type"))
theorem ds_raise {x m : Str} {j : Nat} {C : Addr} {p p2 pos pos2 : Pos} (hc : X.calm = true) (tk : Takes X W) (gC : X.mg x = some (.ref C)) (hb : excB X.K C = true) (hg : Gl X x) (hd : (x == ("__debug__" : Str)) = false) :
    DS X H0 W (.Raise (some (.Call (.Name x p) [.Constant (.str m) j p2] [] pos)) none pos2) fun ρ => .exc x [] ρ := by
  unfold excB at hb
  simp only [Bool.and_eq_true, beq_iff_eq] at hb
  obtain ⟨⟨⟨h1, h2⟩, h3⟩, h4⟩ := hb
  exact PS.imp (ps_raise hc tk (pmk_own PySem.F.excBase_ValueError h1 gC h2 (raises_own h3 h4) hg hd)) fun Dn σ H ⟨ρ, U, P, q⟩ => q _ _ _ _ U Kp.rfl P ⟨gC, .inl ⟨rfl, rfl⟩⟩
end
end Mp
namespace Mp
open PySem PySem.Spec PyProof.Rows L2
/-! ## try, clauses of any form -/
/-- an exception at a in the air of X, behind its landing; s0: the state without it -/
structure Fly (X : Cx) (pins : List (Addr × Obj)) (σ : L2.St) (H : Hp) (a : Addr) (cls : Value) (d : Option Addr) (B : Heap) (s0 s : Shared) : Prop where
  inv : Inv X pins σ H s0
  nb : ∀ b o, s0.heap.get? b = some o → b ∉ frs X.stack → B.get? b = some o
  up : s0.heap.UpToSlots s.heap
  fl : HandSPX.FlyingZ B (X.env :: X.outer) a (Zc cls d) s.heap
  na : H a = none
  os : s.os = s0.os
  ag : AllBare s.gens
section
variable {X : Cx} {pins : List (Addr × Obj)} {σ : L2.St} {H : Hp} {a : Addr} {cls : Value} {d : Option Addr} {B : Heap} {s0 s : Shared}
theorem Fly.now (F : Fly X pins σ H a cls d B s0 s) : Inv X pins σ H s := F.inv.landed F.nb F.fl.1 F.up F.os F.ag
theorem Fly.later (F : Fly X pins σ H a cls d B s0 s) {hp : Heap} (f : HandSPX.FlyingZ B (X.env :: X.outer) a (Zc cls d) hp) (u : s.heap.UpToSlots hp) : Fly X pins σ H a cls d B s0 { s with heap := hp } :=
  ⟨F.inv, F.nb, F.up.trans u, f, F.na, F.os, F.ag⟩
theorem Fly.su (F : Fly X pins σ H a cls d B s0 s) (hf : X.env.frame = some X.env.locals) : ∃ oe, s.heap.get? a = some oe ∧ Zc cls d oe ∧ (∃ vs, oe.data = .fields vs) ∧ Inv (X.suite a ((a, oe) :: (X.pn ++ pins))) [] σ H s := by
  obtain ⟨oe, vs, q1, q2, q3⟩ := F.fl.there
  have nf : a ∉ frs (X.env :: X.outer) := fun z => by
    obtain ⟨_, o2, e2, z2⟩ := F.fl.2.2.1.mem z
    cases q1.symm.trans e2
    exact z2 _ q3
  have n1 : a ≠ X.env.locals := by
    rintro rfl
    exact nf (List.mem_filterMap.mpr ⟨X.env, List.mem_cons_self, hf⟩)
  have n2 : a ∉ X.fs := fun z => by
    obtain ⟨e, q4, q5⟩ := List.mem_filterMap.mp z
    exact nf (List.mem_filterMap.mpr ⟨e, List.mem_cons_of_mem _ q4, q5⟩)
  exact ⟨oe, q1, q2, ⟨vs, q3⟩, F.now.suite q1 q3 F.na n1 n2⟩
end
/-- a clause: the class that it names, what it does -/
def Cl (X : Cx) (h : ExceptHandler) (c : Value) (ts : Addr → Value → Option Addr → TS) : Prop :=
  ∀ (pins : List (Addr × Obj)) (σ : L2.St) (H : Hp) (a : Addr) (cls : Value) (d : Option Addr) (B : Heap) (s0 s : Shared) (b : Bool) (more : List ExceptHandler) (Dn : Ends), Fly X pins σ H a cls d B s0 s →
    PySem.W.exmOne X.K cls c = some b → (b = true → ts a cls d Dn σ H) → (b = false → wpAny (model X.prog X.w) X.A (handleBy (.ref a) X.env more) (SP X pins Dn) X.xe s) →
    wpAny (model X.prog X.w) X.A (handleBy (.ref a) X.env (h :: more)) (SP X pins Dn) X.xe s
inductive Cls (X : Cx) : List ExceptHandler → List (Value × (Addr → Value → Option Addr → TS)) → Prop
  | nil : Cls X [] []
  | cons {h : ExceptHandler} {c : Value} {ts : Addr → Value → Option Addr → TS} {hs : List ExceptHandler} {l : List (Value × (Addr → Value → Option Addr → TS))} (q : Cl X h c ts) (r : Cls X hs l) : Cls X (h :: hs) ((c, ts) :: l)
section
variable {X : Cx} {x n : Str} {c : Value} {i : Nat} {b0 : Stmt} {suite : List Stmt} {np hp : Pos} {ts : Addr → Value → Option Addr → TS}
/-- the test of a clause -/
theorem cl_test {a : Addr} {oe : Obj} {pn : List (Addr × Obj)} {σ : L2.St} {H : Hp} {s : Shared} {Q E : Value → Shared → Prop} (hc : Names X x c) (I : Inv (X.suite a pn) [] σ H s) (q : Q c s) :
    wpAny (model X.prog X.w) (X.A.mark (some (.ref a))) (eval (.Name x np) X.env) Q E s := by
  rcases hc with ⟨g1, g2, g3 | ⟨g3, g4, g5⟩⟩
  · exact ld_glob I g1 g3 q g2
  · exact ld_blt I g1 g3 g4 q g5 g2
theorem cl_only (hf : X.env.frame = some X.env.locals) (hc : Names X x c)
    (hb : ∀ (a : Addr) (oe : Obj) (cls : Value) (d : Option Addr) (pn : List (Addr × Obj)), Zc cls d oe → (∃ vs, oe.data = .fields vs) → PSs (X.suite a ((a, oe) :: pn)) (b0 :: suite) (ts a cls d)) :
    Cl X (.ExceptHandler (some (.Name x np)) none (b0 :: suite) hp) c ts := by
  intro pins σ H a cls d B s0 s b more Dn F hm yes no
  have ok := F.inv.ok
  obtain ⟨oe, q1, q2, q3, S⟩ := F.su hf
  have lk : PySem.W.Looks (model X.prog X.w) s.heap (typeOf (.ref a)) cls := fun A Q E s1 k q => wpAny_typeOf_ref (k _ _ q1) (by rw [q2.1]; exact q)
  refine wpAny_handleBy_cons (codeAny_handlers_test (cl_test (oe := oe) hc S ((PySem.W.exm_one F.now.kIn lk hm).here ?_))) (fun z => nomatch z)
  cases b with
  | false => exact no rfl
  | true =>
    refine codeAny_handlers_suite (HandSPX.lands_againZ F.fl fun h4 f4 u4 => ?_)
    obtain ⟨oe4, p1, p2, p3, S4⟩ := (F.later f4 u4).su hf
    refine wpAny_mono ((hb a oe4 cls d (X.pn ++ pins) p2 p3).run [] _ _ _ _ S4 (yes rfl)) (fun f s6 z => ?_) fun _ _ z => z.elim
    cases f with
    | ret u =>
      obtain ⟨v6, σ6, H6, S6, r6, q6⟩ := z
      exact ⟨v6, σ6, H6, S6.unsuite ok, r6, q6⟩
    | _ =>
      obtain ⟨σ6, H6, S6, q6⟩ := z
      exact ⟨σ6, H6, S6.unsuite ok, q6⟩
/-- slot i goes -/
def goneD (i : Nat) (Dn : Ends) : Ends := { nx := fun σ H => Dn.nx (σ.set i none) H, rt := Dn.rt, bk := fun σ H => Dn.bk (σ.set i none) H, ct := fun σ H => Dn.ct (σ.set i none) H }
theorem cl_as (hf : X.env.frame = some X.env.locals) (hN : X.N.Nodup) (hi : X.N[i]? = some n) (hn : X.env.kindOf n = some .local) (hc : Names X x c)
    (hb : ∀ (a : Addr) (oe : Obj) (cls : Value) (d : Option Addr) (pn : List (Addr × Obj)), Zc cls d oe → (∃ vs, oe.data = .fields vs) → PSs (X.suite a ((a, oe) :: pn)) (b0 :: suite) (ts a cls d)) :
    Cl X (.ExceptHandler (some (.Name x np)) (some n) (b0 :: suite) hp) c (fun a cls d Dn σ H => i < σ.length → ts a cls d (goneD i Dn) (σ.set i (some (.ref a))) H) := by
  intro pins σ H a cls d B s0 s b more Dn F hm yes no
  have ok := F.inv.ok
  have lc : Loc X.env.scope n := .inl hn
  obtain ⟨oe, q1, q2, q3, S⟩ := F.su hf
  have lk : PySem.W.Looks (model X.prog X.w) s.heap (typeOf (.ref a)) cls := fun A Q E s1 k q => wpAny_typeOf_ref (k _ _ q1) (by rw [q2.1]; exact q)
  refine wpAny_handleBy_cons (codeAny_handlers_test (cl_test (oe := oe) hc S ((PySem.W.exm_one F.now.kIn lk hm).here ?_))) (fun z => nomatch z)
  cases b with
  | false => exact no rfl
  | true =>
    refine codeAny_handlers_suite_as (HandSPX.lands_againZ F.fl fun h4 f4 u4 => ?_)
    obtain ⟨oe4, p1, p2, p3, S4⟩ := (F.later f4 u4).su hf
    refine store_ok (X := X.suite a ((a, oe4) :: (X.pn ++ pins))) (v := .ref a) S4 hN hi lc rfl (fun s5 S5 => ?_) (.inr hn)
    refine wpAny_mono ((hb a oe4 cls d (X.pn ++ pins) p2 p3).run [] _ _ _ _ S5 (yes rfl (by rw [F.now.len]; exact (List.getElem?_eq_some_iff.mp hi).1))) (fun f s6 z => ?_) fun _ _ z => z.elim
    cases f with
    | ret u =>
      obtain ⟨v6, σ6, H6, S6, r6, q6⟩ := z
      exact gone_ok (S6.unsuite ok) hN hi hn fun s7 J7 => ⟨v6, _, H6, J7, r6, q6⟩
    | _ =>
      obtain ⟨σ6, H6, S6, q6⟩ := z
      exact gone_ok (S6.unsuite ok) hN hi hn fun s7 J7 => ⟨_, H6, J7, q6⟩
end
section
variable {X : Cx} {body : List Stmt} {h0 : ExceptHandler} {hds : List ExceptHandler} {l : List (Value × (Addr → Value → Option Addr → TS))} {pos : Pos} {tb : WX → TS} {Wo : WX}
theorem ps_tryG (hs : X.stack = X.env :: X.outer) (hf : X.env.frame = some X.env.locals) (tk : Takes X Wo)
    (hb : ∀ (W : WX) (pn : List (Addr × Obj)) (xe : Value → Shared → Prop), Takes (X.tr pn xe) W → PassesOwn (model X.prog X.w) X.A X.env xe → PSs (X.tr pn xe) body (tb W))
    (hh : Cls X (h0 :: hds) l) : PS X (.Try body (h0 :: hds) [] [] pos) fun Dn σ H => tb (wMany X.K Wo Dn l) Dn σ H := by
  refine ⟨fun pins s σ H Dn I h => ?_⟩
  have ok := I.ok
  have fr : X.A.frames = some (X.env :: X.outer) := ok.frames.trans (by rw [hs])
  refine wpAny_Try_except (wpAny_mono ((hb (wMany X.K Wo Dn l) (X.pn ++ pins) (fun e s1 => wpAny (model X.prog X.w) X.A (noteFrame e X.env) (fun _ s2 => wpAny (model X.prog X.w) X.A (setFlight e none) (fun _ s3 =>
    wpAny (model X.prog X.w) X.A (handleBy e X.env (h0 :: hds)) (SP X pins Dn) X.xe s3) X.xe s2) X.xe s1) (fun u s' z => ?_) PassesOwn.looking).run [] s σ H Dn (I.toTry _) h) (fun f s1 z => ?_) fun e s1 z => z)
  · obtain ⟨a, B, s0, pins', σ', H', cls, d, rfl, J', nb, up, sky, na, os, ag, w⟩ := z
    have J : Inv X pins σ' H' s0 := J'.ofTry ok
    have sky2 : Sky B (X.env :: X.outer) a (Zc cls d) X.env.locals s'.heap := by rw [← hs]; exact sky
    show wpAny (model X.prog X.w) X.A (noteFrame (.ref a) X.env) _ _ _
    refine Sky.land Zc.steady fr hf sky2 fun h3 f3 u3 => ?_
    have F : Fly X pins σ' H' a cls d B s0 { s' with heap := h3 } := ⟨J, nb, up.trans u3, f3, na, os, ag⟩
    have go : ∀ {hs' : List ExceptHandler} {l' : List (Value × (Addr → Value → Option Addr → TS))}, Cls X hs' l' → wMany X.K Wo Dn l' cls d σ' H' →
        wpAny (model X.prog X.w) X.A (handleBy (.ref a) X.env hs') (SP X pins Dn) X.xe { s' with heap := h3 } := by
      intro hs' l' k
      induction k with
      | nil =>
        intro w
        refine wpAny_handleBy_nil ?_
        obtain ⟨_, _, _, oe, vs, T, oT, _, e1, _, e3, e4, _⟩ := id F.fl
        have out : wpAny (model X.prog X.w) X.A (setFlight (.ref a) X.env.frame) (fun _ s4 => wpAny (model X.prog X.w) X.A (throw (.ref a) : Sem Flow) (SP X pins Dn) X.xe s4) X.xe { s' with heap := h3 } := by
          rw [hf]
          exact HandSPX.setFlight_upZ F.fl fun h4 f4 u4 => wpAny_throw (tk _ _ ⟨a, B, s0, pins, σ', H', cls, d, rfl, J, nb, F.up.trans u4, .inr (.inr (by rw [hs]; exact f4)), na, os, ag, w⟩)
        unfold PySem.passOn
        refine wpAny_bind (wpAny_field e1 e3 e4 ?_)
        rw [if_neg (by simp)]
        first
          | exact wpAny_bind (wpAny_pure (wpAny_bind out))
          | exact wpAny_bind out
      | cons q _ ih =>
        intro w
        obtain ⟨b, b1, b2, b3⟩ := w
        exact q pins σ' H' a cls d B s0 _ b _ Dn F b1 (fun z => b2 z a na) fun z => ih (b3 z)
    exact go hh w
  · cases f with
    | next =>
      obtain ⟨σ1, H1, J1, q⟩ := z
      exact wpAny_execs_nil ⟨σ1, H1, J1.ofTry ok, q⟩
    | ret u =>
      obtain ⟨v, σ1, H1, J1, r, q⟩ := z
      exact ⟨v, σ1, H1, J1.ofTry ok, r, q⟩
    | _ =>
      obtain ⟨σ1, H1, J1, q⟩ := z
      exact ⟨σ1, H1, J1.ofTry ok, q⟩
end
end Mp
namespace Mp
open PySem PySem.Spec PyProof.Rows L2
/-! ## what an except suite does -/
/-- an expression of a suite -/
inductive Se where
  | lit (d : D)
  | fld (f : Str)
  | tup (es : List Se)
/-- a suite -/
inductive Su where
  | ret (e : Se)
  | ct
  | nx
  | isi (y n : List Str)
mutual
def Se.f (fs : List (Str × D)) : Se → Out D
  | .lit d => .ok d
  | .fld f => match fs.lookup f with
    | some d => .ok d
    | none => .stuck
  | .tup es => (Se.fs fs es).bind tupD
def Se.fs (fs : List (Str × D)) : List Se → Out (List D)
  | [] => .ok []
  | e :: es => (Se.f fs e).bind fun x => (Se.fs fs es).bind fun xs => .ok (x :: xs)
end
def Su.f (c : Str) (fs : List (Str × D)) (ρ : Rho) : Su → SOut
  | .ret e => (e.f fs).st ρ .ret
  | .ct => .ct ρ
  | .nx => .nx ρ
  | .isi y n => match fs with
    | [] => if y.contains c = true then .ret (.bool true) else if n.contains c = true then .ret (.bool false) else .stuck
    | _ :: _ => .stuck
/-- a clause: the names of the classes that it takes, of those that it lets go on; its own name's slot -/
structure Hd where
  yes : List Str
  no : List Str
  as_ : Option Nat
  su : Su
def offR (o : Option Nat) (ρ : Rho) : Rho := match o with
  | some i => ρ.set i none
  | none => ρ
def hdl : List Hd → Str → List (Str × D) → Rho → SOut
  | [], c, fs, ρ => .exc c fs ρ
  | h :: r, c, fs, ρ => if h.yes.contains c = true then h.su.f c fs (offR h.as_ ρ) else if h.no.contains c = true then hdl r c fs ρ else .stuck
def SOut.hnd (hs : List Hd) : SOut → SOut
  | .exc c fs ρ => hdl hs c fs ρ
  | r => r
section
variable {X : Cx} {H0 : Ent}
theorem ExR.same {mg : Str → Option Value} {K : PySem.W.Frag} {H H' : Hp} {c : Str} {fs : List (Str × D)} {cls : Value} {d : Option Addr} (h : ExR mg K H c fs cls d) (s : Same H H') : ExR mg K H' c fs cls d := by
  refine ⟨h.1, h.2.imp id ?_⟩
  rintro ⟨hne, dd, xs, e, e2, q⟩
  refine ⟨hne, dd, xs, e, s _ _ e2, fun f y hy => ?_⟩
  exact q f y hy
/-- an expression of the suite, the exception's fields told -/
def tE (X : Cx) (H0 : Ent) (o : Option Nat) (a : Addr) (cls : Value) (d : Option Addr) (se : Se) : TE := fun σ H Q => ∃ (ρ : Rho) (U : Addr → Prop) (c : Str) (fs : List (Str × D)), Pt X.K H0 σ H ρ U ∧ ExR X.mg X.K H c fs cls d ∧ (∀ i, o = some i → σ[i]? = some (some (.ref a))) ∧ PostM X W0 .v σ H U Q (se.f fs)
/-- the suite -/
def tSu (X : Cx) (H0 : Ent) (o : Option Nat) (su : Su) (a : Addr) (cls : Value) (d : Option Addr) : TS := fun Dn σ H => ∃ (ρ : Rho) (U : Addr → Prop) (c : Str) (fs : List (Str × D)), Pt X.K H0 σ H ρ U ∧ ExR X.mg X.K H c fs cls d ∧ (∀ i, o = some i → σ[i]? = some (some (.ref a))) ∧ PostS X H0 W0 Dn H U (su.f c fs ρ)
def SeOk (X : Cx) (H0 : Ent) (o : Option Nat) (e : Expr) (se : Se) : Prop := ∀ (a : Addr) (oe : Obj) (cls : Value) (d : Option Addr) (pn : List (Addr × Obj)), Zc cls d oe → (∃ vs, oe.data = .fields vs) → PE (X.suite a ((a, oe) :: pn)) e (tE X H0 o a cls d se)
def SuOk (X : Cx) (H0 : Ent) (o : Option Nat) (b : List Stmt) (su : Su) : Prop := ∀ (a : Addr) (oe : Obj) (cls : Value) (d : Option Addr) (pn : List (Addr × Obj)), Zc cls d oe → (∃ vs, oe.data = .fields vs) → PSs (X.suite a ((a, oe) :: pn)) b (tSu X H0 o su a cls d)
theorem su_ret {o : Option Nat} {e : Expr} {se : Se} {pos : Pos} (h : SeOk X H0 o e se) : SuOk X H0 o [.Return (some e) pos] (.ret se) := fun a oe cls d pn z f =>
  PSs.imp (pss_one (ps_ret (h a oe cls d pn z f))) fun Dn σ H ⟨ρ, U, c, fs, P, x, hi, q⟩ => by
    refine ⟨ρ, U, c, fs, P, x, hi, ?_⟩
    replace q : PostS X H0 W0 Dn H U ((se.f fs).st ρ .ret) := q
    revert q
    cases se.f fs with
    | ok y => exact fun q v H' s r => q v H' (P.s0.trans s) (rep_out (P.same s) r)
    | exc c fs => exact fun q cls dd H' s r => q cls dd σ H' U (Kp.same s) (P.same s) r
    | stuck => exact fun q => q.elim
theorem su_ct {o : Option Nat} {pos : Pos} : SuOk X H0 o [.Continue pos] .ct := fun a oe cls d pn z f =>
  PSs.imp (pss_one ps_continue) fun Dn σ H ⟨ρ, U, c, fs, P, x, hi, q⟩ => q σ H U Kp.rfl P
theorem su_nx {o : Option Nat} {pos : Pos} : SuOk X H0 o [.Pass pos] .nx := fun a oe cls d pn z f =>
  PSs.imp (pss_one ps_pass) fun Dn σ H ⟨ρ, U, c, fs, P, x, hi, q⟩ => q σ H U Kp.rfl P
theorem se_fld {i : Nat} {n f : Str} {p1 p2 : Pos} (hi : X.N[i]? = some n) (hv : Vis X.env.scope n) (hd : (n == ("__debug__" : Str)) = false) (hcd : (n == ("__classdict__" : Str)) = false) : SeOk X H0 (some i) (.Attribute (.Name n p1) f p2) (.fld f) := fun a oe cls d pn z hf => by
  have none_ : ¬ FldOk X.K cls f → PE (X.suite a ((a, oe) :: pn)) (.Attribute (.Name n p1) f p2) (tE X H0 (some i) a cls d (.fld f)) := fun hno => ⟨fun pins s σ H Q I ⟨ρ, U, c, fs, P, x, _, q⟩ => by
    replace q : PostM X W0 .v σ H U Q (match fs.lookup f with
      | some d => .ok d
      | none => .stuck) := q
    split at q
    · rename_i y e
      rcases x.2 with ⟨rfl, _⟩ | ⟨_, dd, xs, _, _, q2⟩
      · cases e
      · exact absurd (q2 f y e).1 hno
    · exact q.elim⟩
  by_cases hno : FldOk X.K cls f
  case neg => exact none_ hno
  obtain ⟨C, rfl, T, hC⟩ := hno
  refine PE.imp (pe_xf (C := C) T hC z hf (pe_var (X := X.suite a ((a, oe) :: pn)) hi hv hd hcd) rfl) fun σ H Q ⟨ρ, U, c, fs, P, x, ho, q⟩ => ?_
  refine ⟨.ref a, ho i rfl, rfl, rfl, ?_⟩
  replace q : PostM X W0 .v σ H U Q (match fs.lookup f with
      | some d => .ok d
      | none => .stuck) := q
  split at q
  · rename_i y e
    rcases x.2 with ⟨rfl, _⟩ | ⟨_, dd, xs, h1, h2, q2⟩
    · cases e
    · obtain ⟨_, v, h3, h4⟩ := q2 f y e
      exact ⟨dd, xs, v, h1, h2, h3, q v H (Same.refl H) h4.rep⟩
  · exact q.elim
theorem se_int {o : Option Nat} {i : Int} {j pos} : SeOk X H0 o (.Constant (.int i) j pos) (.lit (.int i)) := fun a oe cls d pn z f => PE.imp pe_int fun σ H Q ⟨ρ, U, c, fs, P, x, hi, q⟩ => q (.int i) H (Same.refl H) (.int i)
theorem se_bl {o : Option Nat} {i : Bool} {j pos} : SeOk X H0 o (.Constant (.bool i) j pos) (.lit (.bool i)) := fun a oe cls d pn z f => PE.imp pe_bl fun σ H Q ⟨ρ, U, c, fs, P, x, hi, q⟩ => q (.bl i) H (Same.refl H) (.bl i)
theorem se_str {o : Option Nat} {i : Str} {j pos} : SeOk X H0 o (.Constant (.str i) j pos) (.lit (.str i)) := fun a oe cls d pn z f => PE.imp pe_str fun σ H Q ⟨ρ, U, c, fs, P, x, hi, q⟩ => q (.str i) H (Same.refl H) (.str i)
theorem se_non {o : Option Nat} {j pos} : SeOk X H0 o (.Constant .none j pos) (.lit .none) := fun a oe cls d pn z f => PE.imp pe_non fun σ H Q ⟨ρ, U, c, fs, P, x, hi, q⟩ => q .non H (Same.refl H) .non
/-- items of a display -/
def tEs (X : Cx) (H0 : Ent) (o : Option Nat) (a : Addr) (cls : Value) (d : Option Addr) (se : List Se) : TA := fun σ H Q => ∃ (ρ : Rho) (U : Addr → Prop) (c : Str) (fs : List (Str × D)), Pt X.K H0 σ H ρ U ∧ ExR X.mg X.K H c fs cls d ∧ (∀ i, o = some i → σ[i]? = some (some (.ref a))) ∧ PostL X W0 false σ H U Q (Se.fs fs se)
def SesOk (X : Cx) (H0 : Ent) (o : Option Nat) (e : List Expr) (se : List Se) : Prop := ∀ (a : Addr) (oe : Obj) (cls : Value) (d : Option Addr) (pn : List (Addr × Obj)), Zc cls d oe → (∃ vs, oe.data = .fields vs) → PA (X.suite a ((a, oe) :: pn)) e (tEs X H0 o a cls d se)
theorem ses_nil {o : Option Nat} : SesOk X H0 o [] [] := fun a oe cls d pn z f => PA.imp pa_nil fun σ H Q ⟨ρ, U, c, fs, P, x, hi, q⟩ => q [] H (Same.refl H) .nil
theorem ses_cons {o : Option Nat} {e : Expr} {es : List Expr} {se : Se} {ss : List Se} (h : SeOk X H0 o e se) (t : SesOk X H0 o es ss) (hs : ∀ env, starEach (e :: es) env = (false, eval e env) :: starEach es env) : SesOk X H0 o (e :: es) (se :: ss) := fun a oe cls d pn z f =>
  PA.imp (pa_cons (h a oe cls d pn z f) (t a oe cls d pn z f) (hs _)) fun σ H Q ⟨ρ, U, c, fs, P, x, hi, q⟩ => by
    refine ⟨ρ, U, c, fs, P, x, hi, ?_⟩
    replace q : PostL X W0 false σ H U Q ((Se.f fs se).bind fun x => (Se.fs fs ss).bind fun xs => .ok (x :: xs)) := q
    revert q
    cases Se.f fs se with
    | exc c fs => exact fun q => q
    | stuck => exact fun q => q
    | ok y =>
      intro q v H1 s1 r1
      refine ⟨ρ, U, c, fs, P.same s1, x.same s1, hi, ?_⟩
      replace q : PostL X W0 false σ H U Q ((Se.fs fs ss).bind fun xs => .ok (y :: xs)) := q
      revert q
      cases Se.fs fs ss with
      | exc c fs => exact fun q cls dd H' s' z => q cls dd H' (s1.trans s') z
      | stuck => exact fun q => q
      | ok ds => exact fun q vs H2 s2 r2 => q (v :: vs) H2 (s1.trans s2) (.cons (Rep.mono (Kp.same s2) r1) r2)
theorem se_tup {o : Option Nat} {es : List Expr} {ss : List Se} {x1 : Nat} {pos : Pos} (h : SesOk X H0 o es ss) : SeOk X H0 o (.Tuple es x1 pos) (.tup ss) := fun a oe cls d pn z f =>
  PE.imp (pe_tupN (h a oe cls d pn z f)) fun σ H Q ⟨ρ, U, c, fs, P, x, hi, q⟩ => by
    refine ⟨ρ, U, c, fs, P, x, hi, ?_⟩
    replace q : PostM X W0 .v σ H U Q ((Se.fs fs ss).bind tupD) := q
    revert q
    cases Se.fs fs ss with
    | exc c fs => exact fun q => q
    | stuck => exact fun q => q
    | ok ds =>
      intro q vs H1 s1 r1
      replace q : PostM X W0 .v σ H U Q (if ds.length ≤ sizeLine then .ok (.tuple ds) else .stuck) := q
      split at q
      · rename_i hz
        exact ⟨by rw [Reps.length r1]; exact hz, (PostM.later s1 q).tup (fun p hp => (P.same s1).fresh hp) r1⟩
      · exact q.elim
end
end Mp
namespace Mp
open PySem PySem.Spec PyProof.Rows L2
/-! ## try, by its meaning -/
mutual
theorem Se.noexc (fs : List (Str × D)) : ∀ (e : Se) (c : Str) (gs : List (Str × D)), e.f fs ≠ .exc c gs
  | .lit d, _, _, h => by cases h
  | .fld f, _, _, h => by
    unfold Se.f at h
    split at h <;> cases h
  | .tup es, c, gs, h => by
    unfold Se.f at h
    cases e : Se.fs fs es with
    | ok ds =>
      rw [e] at h
      replace h : (if ds.length ≤ sizeLine then Out.ok (PyData.tuple ds) else .stuck) = .exc c gs := h
      split at h <;> cases h
    | exc c' gs' => exact Se.noexcs fs es _ _ e
    | stuck =>
      rw [e] at h
      cases h
theorem Se.noexcs (fs : List (Str × D)) : ∀ (e : List Se) (c : Str) (gs : List (Str × D)), Se.fs fs e ≠ .exc c gs
  | [], _, _, h => by cases h
  | e :: es, c, gs, h => by
    unfold Se.fs at h
    cases e1 : e.f fs with
    | exc c' gs' => exact Se.noexc fs e _ _ e1
    | stuck =>
      rw [e1] at h
      cases h
    | ok x =>
      rw [e1] at h
      replace h : ((Se.fs fs es).bind fun xs => Out.ok (x :: xs)) = .exc c gs := h
      cases e2 : Se.fs fs es with
      | exc c' gs' => exact Se.noexcs fs es _ _ e2
      | stuck =>
        rw [e2] at h
        cases h
      | ok xs =>
        rw [e2] at h
        cases h
end
section
variable {X : Cx} {H0 : Ent} {W : WX}
theorem PostS.su0 {Dn : Ends} {H : Hp} {U : Addr → Prop} {c : Str} {fs : List (Str × D)} {ρ : Rho} : ∀ {su : Su}, PostS X H0 W Dn H U (su.f c fs ρ) → PostS X H0 W0 Dn H U (su.f c fs ρ)
  | .ct, q => q
  | .nx, q => q
  | .ret e, q => by
    replace q : PostS X H0 W Dn H U ((e.f fs).st ρ .ret) := q
    show PostS X H0 W0 Dn H U ((e.f fs).st ρ .ret)
    revert q
    cases h : e.f fs with
    | ok d => exact fun q => q
    | exc c gs => exact absurd h (Se.noexc fs e c gs)
    | stuck => exact fun q => q
  | .isi y n, q => by
    cases fs with
    | cons _ _ => exact q.elim
    | nil =>
      replace q : PostS X H0 W Dn H U (if y.contains c = true then .ret (.bool true) else if n.contains c = true then .ret (.bool false) else .stuck) := q
      show PostS X H0 W0 Dn H U (if y.contains c = true then .ret (.bool true) else if n.contains c = true then .ret (.bool false) else .stuck)
      split
      · rename_i h
        rw [if_pos h] at q
        exact q
      · rename_i h
        rw [if_neg h] at q
        split
        · rename_i h
          rw [if_pos h] at q
          exact q
        · rename_i h
          rw [if_neg h] at q
          exact q
theorem PostS.gone {Dn : Ends} {H : Hp} {U : Addr → Prop} {c : Str} {fs : List (Str × D)} {ρ : Rho} {i : Nat} : ∀ {su : Su}, PostS X H0 W Dn H U (su.f c fs (ρ.set i none)) → PostS X H0 W (goneD i Dn) H U (su.f c fs (ρ.set i none))
  | .ct, q => fun σ H' U' k P => q _ _ U' k (by have := P.clear i none; rwa [List.set_set] at this)
  | .nx, q => fun σ H' U' k P => q _ _ U' k (by have := P.clear i none; rwa [List.set_set] at this)
  | .ret e, q => by
    replace q : PostS X H0 W Dn H U ((e.f fs).st (ρ.set i none) .ret) := q
    show PostS X H0 W (goneD i Dn) H U ((e.f fs).st (ρ.set i none) .ret)
    revert q
    cases h : e.f fs with
    | ok d => exact fun q => q
    | exc c gs => exact absurd h (Se.noexc fs e c gs)
    | stuck => exact fun q => q
  | .isi y n, q => by
    cases fs with
    | cons _ _ => exact q.elim
    | nil =>
      replace q : PostS X H0 W Dn H U (if y.contains c = true then .ret (.bool true) else if n.contains c = true then .ret (.bool false) else .stuck) := q
      show PostS X H0 W (goneD i Dn) H U (if y.contains c = true then .ret (.bool true) else if n.contains c = true then .ret (.bool false) else .stuck)
      split
      · rename_i h
        rw [if_pos h] at q
        exact q
      · rename_i h
        rw [if_neg h] at q
        split
        · rename_i h
          rw [if_pos h] at q
          exact q
        · rename_i h
          rw [if_neg h] at q
          exact q
/-- what a clause's names are -/
structure HdN (X : Cx) (h : Hd) (c : Value) : Prop where
  yes : ∀ y ∈ h.yes, ∃ C, X.mg y = some C ∧ PySem.W.exmOne X.K C c = some true
  no : ∀ y ∈ h.no, ∃ C, X.mg y = some C ∧ PySem.W.exmOne X.K C c = some false
/-- a clause and what it means -/
inductive HdOk (X : Cx) (H0 : Ent) : ExceptHandler → Hd → Prop
  | only {x : Str} {np hp : Pos} {b0 : Stmt} {suite : List Stmt} {c : Value} {yes no : List Str} {su : Su} (hc : Names X x c) (hn : HdN X ⟨yes, no, none, su⟩ c) (hs : SuOk X H0 none (b0 :: suite) su) : HdOk X H0 (.ExceptHandler (some (.Name x np)) none (b0 :: suite) hp) ⟨yes, no, none, su⟩
  | as_ {x n : Str} {i : Nat} {np hp : Pos} {b0 : Stmt} {suite : List Stmt} {c : Value} {yes no : List Str} {su : Su} (hN : X.N.Nodup) (hi : X.N[i]? = some n) (hk : X.env.kindOf n = some .local) (hc : Names X x c) (hn : HdN X ⟨yes, no, some i, su⟩ c) (hs : SuOk X H0 (some i) (b0 :: suite) su) : HdOk X H0 (.ExceptHandler (some (.Name x np)) (some n) (b0 :: suite) hp) ⟨yes, no, some i, su⟩
inductive HdsOk2 (X : Cx) (H0 : Ent) : List ExceptHandler → List Hd → Prop
  | nil : HdsOk2 X H0 [] []
  | cons {h : ExceptHandler} {k : Hd} {hs : List ExceptHandler} {ks : List Hd} (q : HdOk X H0 h k) (r : HdsOk2 X H0 hs ks) : HdsOk2 X H0 (h :: hs) (k :: ks)
/-- the clauses, and that what they mean is enough -/
theorem hds_cls (hf : X.env.frame = some X.env.locals) {hs : List ExceptHandler} {ks : List Hd} (h : HdsOk2 X H0 hs ks) : ∃ l, Cls X hs l ∧ ∀ (W : WX) (Dn : Ends) (c : Str) (fs : List (Str × D)) (ρ : Rho) (H : Hp) (U : Addr → Prop), PostS X H0 W Dn H U (hdl ks c fs ρ) →
    ∀ cls dd σ H' U', Kp U U' H H' → Pt X.K H0 σ H' ρ U' → ExR X.mg X.K H' c fs cls dd → wMany X.K W Dn l cls dd σ H' := by
  induction h with
  | nil => exact ⟨[], .nil, fun W Dn c fs ρ H U q cls dd σ H' U' k P x => q cls dd σ H' U' k P x⟩
  | cons q r ih =>
    obtain ⟨l, hl, hq⟩ := ih
    cases q with
    | @only x np hp b0 suite c yes no su hc hn hs =>
      refine ⟨_, .cons (cl_only hf hc hs) hl, fun W Dn c' fs ρ H U q cls dd σ H' U' k P e => ?_⟩
      unfold hdl at q
      split at q
      · rename_i hy
        obtain ⟨C, m1, m2⟩ := hn.yes c' (by simpa using hy)
        rw [e.1] at m1
        cases m1
        exact ⟨true, m2, fun _ a na => ⟨ρ, U', c', fs, P, e, fun i z => (nomatch z), PostS.later k (PostS.su0 q)⟩, fun z => nomatch z⟩
      · split at q
        · rename_i hy
          obtain ⟨C, m1, m2⟩ := hn.no c' (by simpa using hy)
          rw [e.1] at m1
          cases m1
          exact ⟨false, m2, (fun z => nomatch z), fun _ => hq W Dn c' fs ρ H U q cls dd σ H' U' k P e⟩
        · exact q.elim
    | @as_ x n i np hp b0 suite c yes no su hN hi hk hc hn hs =>
      refine ⟨_, .cons (cl_as hf hN hi hk hc hs) hl, fun W Dn c' fs ρ H U q cls dd σ H' U' k P e => ?_⟩
      unfold hdl at q
      split at q
      · rename_i hy
        obtain ⟨C, m1, m2⟩ := hn.yes c' (by simpa using hy)
        rw [e.1] at m1
        cases m1
        exact ⟨true, m2, fun _ a na hlt => ⟨ρ.set i none, U', c', fs, P.clear i _, e, fun j z => by
          cases z
          rw [List.getElem?_set_self hlt], PostS.gone (PostS.later k (PostS.su0 q))⟩, fun z => nomatch z⟩
      · split at q
        · rename_i hy
          obtain ⟨C, m1, m2⟩ := hn.no c' (by simpa using hy)
          rw [e.1] at m1
          cases m1
          exact ⟨false, m2, (fun z => nomatch z), fun _ => hq W Dn c' fs ρ H U q cls dd σ H' U' k P e⟩
        · exact q.elim
theorem ds_try {body : List Stmt} {h0 : ExceptHandler} {hds : List ExceptHandler} {ks : List Hd} {pos : Pos} {fb : Rho → SOut} (hs : X.stack = X.env :: X.outer) (hf : X.env.frame = some X.env.locals) (tk : Takes X W)
    (hb : ∀ (W : WX) (pn : List (Addr × Obj)) (xe : Value → Shared → Prop), Takes (X.tr pn xe) W → PassesOwn (model X.prog X.w) X.A X.env xe → DSs (X.tr pn xe) H0 W body fb) (hh : HdsOk2 X H0 (h0 :: hds) ks) :
    DS X H0 W (.Try body (h0 :: hds) [] [] pos) fun ρ => (fb ρ).hnd ks := by
  obtain ⟨l, c1, c2⟩ := hds_cls hf hh
  refine PS.imp (ps_tryG (tb := fun W2 => tS X H0 W2 fb) hs hf tk hb c1) fun Dn σ H ⟨ρ, U, P, q⟩ => ?_
  refine ⟨ρ, U, P, ?_⟩
  replace q : PostS X H0 W Dn H U ((fb ρ).hnd ks) := q
  revert q
  cases fb ρ with
  | exc c fs ρ' => exact fun q cls dd σ' H' U' k P' x => c2 W Dn c fs ρ' H U q cls dd σ' H' U' k P' x
  | _ => exact fun q => q
end
end Mp
namespace Mp
open PySem PySem.Spec PyProof.Rows L2
/-! ## instances: attributes, methods, making -/
def isFk (f : Str) : D → Bool
  | .tuple [.str g] => decide (f = g)
  | _ => false
def lookF (f : Str) : List (D × D) → Option D
  | [] => none
  | (k, v) :: r => if isFk f k = true then some v else lookF f r
theorem RepF.lookF {K : PySem.W.Frag} {U : Addr → Prop} {H : Hp} (f : Str) : ∀ {vs : List (Str × V)} {fs : List (D × D)}, RepF K U H vs fs → (Mp.lookF f fs = none ∧ vs.lookup f = none) ∨ ∃ d v, Mp.lookF f fs = some d ∧ vs.lookup f = some v ∧ Rep K U H v d
  | _, _, .nil => .inl ⟨rfl, rfl⟩
  | _, _, .cons (f := g) (vs := vs) (fs := fs) r t => by
    unfold Mp.lookF isFk
    rw [List.lookup_cons]
    by_cases h : f = g
    · subst h
      exact .inr ⟨_, _, by simp, by simp, r⟩
    · have hb : (f == g) = false := by simpa using h
      rw [hb]
      simp only [h, decide_false, Bool.false_eq_true, if_false]
      exact RepF.lookF f t
def insOf : D → Option (Str × List (D × D))
  | .dict ((.tuple [.str c], .none) :: fs) => some (c, fs)
  | _ => none
theorem insOf_eq {d : D} {c : Str} {fs : List (D × D)} (h : insOf d = some (c, fs)) : d = insD c fs := by
  unfold insOf at h
  split at h
  · cases h
    rfl
  · cases h
@[simp] theorem insOf_ins (c : Str) (fs : List (D × D)) : insOf (insD c fs) = some (c, fs) := rfl
def fldD (cs : List Str) (f : Str) (d : D) : Out D := match insOf d with
  | some (c, fs) => if cs.contains c = true then (match lookF f fs with
    | some x => .ok x
    | none => .stuck) else .stuck
  | none => .stuck
def methOk (c m : Str) (d : D) : Bool := match insOf d with
  | some (c', fs) => decide (c' = c) && (lookF m fs).isNone
  | none => false
def newD (c : Str) (n : Nat) (fl : List (Str × Nat)) (ds : List D) : Out D := if ds.length = n then .ok (insD c (fl.map fun p => (.tuple [.str p.1], ds.getD p.2 .none))) else .stuck
section
variable {X : Cx} {H0 : Ent} {W : WX}
theorem de_fld {cs : List Str} {f : Str} {o : Expr} {pos : Pos} {fo : Rho → Out D} (hc : ∀ c ∈ cs, ∃ C, PySem.W.nsIn X.K mainGlobals c = some (some (.ref C)) ∧ L2.Cls X.K C ∧ NoAttr X.K C f) (ho : DE X H0 W .b o fo) (hb : attributeBase o f X.env (eval o X.env) = eval o X.env) :
    DE X H0 W .v (.Attribute o f pos) fun ρ => (fo ρ).bind (fldD cs f) :=
  PE.imp (pe_fld ho hb) fun σ H Q ⟨ρ, U, P, q⟩ => ⟨ρ, U, P, PostM.first (ma := .b) P q fun d v H1 s1 P1 r1 q1 => by
    unfold fldD at q1
    split at q1
    case h_2 => exact q1.elim
    rename_i c fs e
    split at q1
    case isFalse => exact q1.elim
    rename_i hcc
    split at q1
    case h_2 => exact q1.elim
    rename_i x hx
    have e := insOf_eq e
    subst e
    obtain ⟨a, C, dx, vs, rfl, e1, n1, r⟩ := BRep.ins (show BRep X.K U H1 v (insD c fs) from r1)
    obtain ⟨C', n2, k1, k2⟩ := hc c (by simpa using hcc)
    rw [n1] at n2
    cases n2
    rcases r.lookF f with ⟨z, _⟩ | ⟨d, w, z1, z2, z3⟩
    · rw [hx] at z; cases z
    · rw [hx] at z1
      cases z1
      exact ⟨a, C, dx, vs, w, rfl, e1, k1, k2, z2, q1.val z3⟩⟩
end
/-- a method call, what is raised wished for at the caller's slots -/
def tMethS (C : Addr) (m : Str) (sp : Sp) (E : L2.St → XK) (ta : TE) (t : TA) : TE := fun σ H Q => ta σ H fun x H1 => ∃ a dx fs, x = .ref a ∧ H1 a = some (.ins C dx fs) ∧ fs.lookup m = none ∧
  t σ H1 fun vs H2 => sp (x :: vs) H2 Q (E σ)
section
variable {X : Cx} {CX : CXT} {k : Nat} {f C : Addr} {fd : FuncData} {ps : List Str} {sp : Sp} {E : L2.St → XK} {m : Str} {pos apos : Pos} {e o : Expr} {es : List Expr} {ta : TE} {t : TA}
theorem pe_methS {pl : Sem Bool} (he : PE X o ta) (c : L2.Cls X.K C) (hm : Meth X.K C m f) (F : FnOk X.prog X.w X.K X.mg X.base CX k f fd ps sp) (hr : Room k X.A) (hb : Binds X.K fd ps []) (hx : ∀ σ, PassesAt CX X σ (E σ)) (ha : PA X (e :: es) t)
    (hst : starEach (e :: es) X.env = (false, eval e X.env) :: starEach es X.env) (hpl : (backTo pos (starEach es X.env)).any (·.1) = false)
    (ht : eval (.Call (.Attribute o m apos) (e :: es) [] pos) X.env = (do
      let ov ← eval o X.env
      standAt apos.atName
      let (f, first) ← holding [ov] (getMethod ov m pl)
      callWith pos f first (backTo pos (starEach (e :: es) X.env)) (backToKw pos (keywordEach [] X.env)))) :
    PE X (.Call (.Attribute o m apos) (e :: es) [] pos) (tMethS C m sp E ta t) := by
  refine ⟨fun pins s σ H Q I h => ?_⟩
  refine PySem.W.methodCall_KW (pl := pl) (thn (he.run pins s σ H _ I h) fun u s1 ⟨x, H1, I1, rx, a, dx, fs, ex, ea, l, q⟩ => ?_) ht
  subst ex
  obtain rfl : u = Value.ref a := rx
  refine getmeth_ok I1 ea c hm l ?_
  refine PySem.W.callWith_K (first := [.ref a]) (h₀ := X.base) I.ok.mod.kin hm.kp (thn (ha.run pos pins s1 σ H1 _ I1 q) fun us s2 ⟨vs, H2, I2, r, q2⟩ => ⟨I2.kIn, ?_⟩) hst hpl
  exact run_fnS (us := .ref a :: us) (vs := .ref a :: vs) F hr hb (hx σ) I2 (.cons rfl r) q2
theorem pe_methS0 {pl : Sem Bool} (he : PE X o ta) (c : L2.Cls X.K C) (hm : Meth X.K C m f) (F : FnOk X.prog X.w X.K X.mg X.base CX k f fd ps sp) (hr : Room k X.A) (hb : Binds X.K fd ps []) (hx : ∀ σ, PassesAt CX X σ (E σ))
    (ht : eval (.Call (.Attribute o m apos) [] [] pos) X.env = (do
      let ov ← eval o X.env
      standAt apos.atName
      let (f, first) ← holding [ov] (getMethod ov m pl)
      callWith pos f first (backTo pos (starEach [] X.env)) (backToKw pos (keywordEach [] X.env)))) :
    PE X (.Call (.Attribute o m apos) [] [] pos) (tMethS C m sp E ta tNil) := by
  refine ⟨fun pins s σ H Q I h => ?_⟩
  refine PySem.W.methodCall_KW (pl := pl) (thn (he.run pins s σ H _ I h) fun u s1 ⟨x, H1, I1, rx, a, dx, fs, ex, ea, l, q⟩ => ?_) ht
  subst ex
  obtain rfl : u = Value.ref a := rx
  refine getmeth_ok I1 ea c hm l ?_
  exact PySem.W.callWith_K0 (first := [.ref a]) I1.kIn hm.kp (run_fnS (us := [.ref a]) (vs := [.ref a]) F hr hb (hx σ) I1 (.cons rfl .nil) q)
end
section
variable {X : Cx} {H0 : Ent} {W : WX} {k n : Nat} {f C : Addr} {fd : FuncData} {ps : List Str} {g : List D → Out D} {c m : Str} {pos apos : Pos} {o : Expr} {es : List Expr} {fo : Rho → Out D} {fa : Rho → Out (List D)}
/-- the call's tree -/
def MC (X : Cx) (o : Expr) (m : Str) (apos : Pos) (es : List Expr) (pos : Pos) : Prop := ∃ pl : Sem Bool, eval (.Call (.Attribute o m apos) es [] pos) X.env = (do
      let ov ← eval o X.env
      standAt apos.atName
      let (f, first) ← holding [ov] (getMethod ov m pl)
      callWith pos f first (backTo pos (starEach es X.env)) (backToKw pos (keywordEach [] X.env)))
theorem meth_rule {t : TA} {σ : L2.St} {H : Hp} {Q : VK} {U : Addr → Prop} {ρ : Rho} (hn : PySem.W.nsIn X.K mainGlobals c = some (some (.ref C))) (hgn : ∀ ds, ds.length ≠ n → g ds = .stuck) (P : Pt X.K H0 σ H ρ U)
    (q : PostM X W .v σ H U Q ((fo ρ).bind fun d => if methOk c m d = true then (fa ρ).bind fun ds => g (d :: ds) else .stuck))
    (ht : ∀ {H1 : Hp} {R : List V → Hp → Prop}, Pt X.K H0 σ H1 ρ U → PostL X W false σ H1 U R (fa ρ) → t σ H1 R) : tMethS C m (spG X.mg X.K n g) (WE W) (tD X H0 W .v fo) t σ H Q := by
  refine ⟨ρ, U, P, PostM.first (ma := .v) P q fun d v H1 s1 P1 r1 q1 => ?_⟩
  split at q1
  case isFalse => exact q1.elim
  rename_i hok
  unfold methOk at hok
  split at hok
  case h_2 => cases hok
  rename_i c' fs e
  simp only [Bool.and_eq_true, decide_eq_true_eq, Option.isNone_iff_eq_none] at hok
  obtain ⟨rfl, hl⟩ := hok
  have e := insOf_eq e
  subst e
  have r1 : Rep X.K U H1 v (insD c' fs) := r1
  obtain ⟨a, C', dx, vs, rfl, e1, n1, r⟩ := BRep.ins (.inl r1)
  rw [hn] at n1
  cases n1
  refine ⟨a, dx, vs, rfl, e1, ?_, ht P1 ?_⟩
  · rcases r.lookF m with ⟨_, z⟩ | ⟨d, w, z1, _, _⟩
    · exact z
    · rw [hl] at z1; cases z1
  · cases efa : fa ρ with
    | exc c fs =>
      rw [efa] at q1
      exact q1
    | stuck =>
      rw [efa] at q1
      exact q1.elim
    | ok ds =>
      rw [efa] at q1
      intro vs2 H2 s2 r2
      replace q1 : PostM X W .v σ H1 U Q (g (insD c' fs :: ds)) := q1
      refine ⟨U, insD c' fs :: ds, (P1.same s2).ud, .cons (r1.mono (Kp.same s2)) r2, nAr hgn (P := PostM X W .v σ H1 U Q) (fun z => z) q1, ?_⟩
      revert q1
      cases g (insD c' fs :: ds) with
      | exc c fs => exact fun q cls dd H' s' z => q cls dd H' (s2.trans s') z
      | stuck => exact fun q => q
      | ok d => exact fun q v H' s' r => q v H' (s2.trans s') r
theorem de_meth {e : Expr} (hn : PySem.W.nsIn X.K mainGlobals c = some (some (.ref C))) (hc : L2.Cls X.K C) (hm : Meth X.K C m f) (F : FnOk X.prog X.w X.K X.mg X.base (L2.CX X.prog X.w) k f fd ps (spG X.mg X.K n g)) (hgn : ∀ ds, ds.length ≠ n → g ds = .stuck) (hr : Room k X.A) (hb : Binds X.K fd ps []) (tk : Takes X W)
    (ho : DE X H0 W .v o fo) (ha : DA X H0 W false (e :: es) fa) (hst : starEach (e :: es) X.env = (false, eval e X.env) :: starEach es X.env) (hpl : (backTo pos (starEach es X.env)).any (·.1) = false) (hmc : MC X o m apos (e :: es) pos) :
    DE X H0 W .v (.Call (.Attribute o m apos) (e :: es) [] pos) fun ρ => (fo ρ).bind fun d => if methOk c m d = true then (fa ρ).bind fun ds => g (d :: ds) else .stuck := by
  obtain ⟨pl, hmc⟩ := hmc
  exact PE.imp (pe_methS ho hc hm F hr hb (fun σ => passAt tk σ) ha hst hpl hmc) fun σ H Q ⟨ρ, U, P, q⟩ => meth_rule hn hgn P q fun P1 q2 => ⟨ρ, U, P1, q2⟩
theorem de_meth0 (hn : PySem.W.nsIn X.K mainGlobals c = some (some (.ref C))) (hc : L2.Cls X.K C) (hm : Meth X.K C m f) (F : FnOk X.prog X.w X.K X.mg X.base (L2.CX X.prog X.w) k f fd ps (spG X.mg X.K n g)) (hgn : ∀ ds, ds.length ≠ n → g ds = .stuck) (hr : Room k X.A) (hb : Binds X.K fd ps []) (tk : Takes X W)
    (ho : DE X H0 W .v o fo) (hmc : MC X o m apos [] pos) :
    DE X H0 W .v (.Call (.Attribute o m apos) [] [] pos) fun ρ => (fo ρ).bind fun d => if methOk c m d = true then g [d] else .stuck := by
  obtain ⟨pl, hmc⟩ := hmc
  exact PE.imp (pe_methS0 ho hc hm F hr hb (fun σ => passAt tk σ) hmc) fun σ H Q ⟨ρ, U, P, q⟩ => meth_rule (fa := fun _ => .ok []) hn hgn P q fun P1 q2 => q2 [] _ (Same.refl _) .nil
end
end Mp
namespace Mp
open PySem PySem.Spec PyProof.Rows L2
/-! ## __init__ that only sets attributes to parameters -/
def tIni (K : PySem.W.Frag) : List (Str × Nat) → TS
  | [] => tNext
  | (f, i) :: r => tSeq (sFld K (tVar 0) (tVar (i + 1)) f) (tIni K r)
def valAt (σ : L2.St) (i : Nat) : V := match σ[i]? with
  | some (some v) => v
  | _ => .non
def putAll (σ : L2.St) : List (Str × Nat) → List (Str × V) → List (Str × V)
  | [], vs => vs
  | (f, i) :: r, vs => putAll σ r (putF f (valAt σ (i + 1)) vs)
theorem putF_new {f : Str} {v : V} : ∀ {vs : List (Str × V)}, (∀ p ∈ vs, p.1 ≠ f) → putF f v vs = vs ++ [(f, v)]
  | [], _ => rfl
  | (g, x) :: r, h => by
    unfold putF
    rw [if_neg (h (g, x) (List.mem_cons_self ..)), putF_new fun p hp => h p (List.mem_cons_of_mem _ hp)]
    rfl
theorem putAll_eq (σ : L2.St) : ∀ {fl : List (Str × Nat)} {vs : List (Str × V)}, (fl.map (·.1)).Nodup → (∀ p ∈ vs, ∀ q ∈ fl, p.1 ≠ q.1) → putAll σ fl vs = vs ++ fl.map fun p => (p.1, valAt σ (p.2 + 1))
  | [], vs, _, _ => by simp [putAll]
  | (f, i) :: r, vs, hn, hd => by
    obtain ⟨h1, h2⟩ := List.nodup_cons.mp hn
    unfold putAll
    rw [putF_new fun p hp => hd p hp (f, i) (List.mem_cons_self ..), putAll_eq σ h2 fun p hp q hq => ?_, List.append_assoc]
    · rfl
    · rcases List.mem_append.mp hp with hp | hp
      · exact hd p hp q (List.mem_cons_of_mem _ hq)
      · obtain rfl := List.mem_singleton.mp hp
        exact fun e => h1 (List.mem_map.mpr ⟨q, hq, e.symm⟩)
theorem upd_upd {H : Hp} {x : Addr} {a b : HO} : upd (upd H x a) x b = upd H x b := by
  funext y
  by_cases e : y = x
  · rw [e, upd_same, upd_same]
  · rw [upd_ne e, upd_ne e, upd_ne e]
theorem tIni_run {K : PySem.W.Frag} {C dx x : Addr} {Dn : Ends} {σ : L2.St} (h0 : σ[0]? = some (some (.ref x))) (hc : L2.Cls K C) : ∀ {fl : List (Str × Nat)} {vs : List (Str × V)} {H : Hp}, (∀ p ∈ fl, NoAttr K C p.1) → (∀ p ∈ fl, ∃ v, σ[p.2 + 1]? = some (some v)) →
    vs.length + fl.length ≤ 1000 → H x = some (.ins C dx vs) → Dn.nx σ (upd H x (.ins C dx (putAll σ fl vs))) → tIni K fl Dn σ H
  | [], vs, H, _, _, _, hx, h => by
    have e : upd H x (.ins C dx vs) = H := by
      funext y
      by_cases e : y = x
      · rw [e, upd_same, hx]
      · rw [upd_ne e]
    unfold putAll at h
    rw [e] at h
    exact h
  | (f, i) :: r, vs, H, hn, hv, hl, hx, h => by
    obtain ⟨v, hv1⟩ := hv (f, i) (List.mem_cons_self ..)
    have e : valAt σ (i + 1) = v := by unfold valAt; rw [hv1]
    have hl' : vs.length < 1000 := by simp only [List.length_cons] at hl; omega
    refine ⟨v, hv1, .ref x, h0, x, C, dx, vs, rfl, hx, hc, hn (f, i) (List.mem_cons_self ..), hl', ?_⟩
    refine tIni_run h0 hc (vs := putF f v vs) (fun p hp => hn p (List.mem_cons_of_mem _ hp)) (fun p hp => hv p (List.mem_cons_of_mem _ hp)) ?_ upd_same ?_
    · have := length_putF f v vs
      simp only [List.length_cons] at hl
      omega
    · rw [upd_upd]
      unfold putAll at h
      rw [e] at h
      exact h
/-- what such an __init__ promises -/
def spI (C : Addr) (n : Nat) (fl : List (Str × Nat)) : Sp := fun vs H Q _ => ∃ x dx us, vs = .ref x :: us ∧ us.length = n ∧ H x = some (.ins C dx []) ∧ Q .non (upd H x (.ins C dx (fl.map fun p => (p.1, us.getD p.2 .non))))
theorem valAt_start {N : List Str} {x : Addr} {us : List V} {i : Nat} (h : i < us.length) : (L2.start N (.ref x :: us))[i + 1]? = some (some us[i]) := by
  unfold L2.start
  rw [List.getElem?_append_left (by simp; omega), List.getElem?_map, List.getElem?_cons_succ, List.getElem?_eq_getElem h]
  rfl
theorem init_ok {P : Program} {w : World} {K : PySem.W.Frag} {mg : Str → Option Value} {base : Heap} {x qual : Str} {params : Arguments} {body : List Stmt} {scope : Scope} {f C : Addr} {fd : FuncData} {N ps : List Str} {n : Nat} {fl : List (Str × Nat)} {dvs : List V} {kws : List (Str × V)}
    (F : FunD K x qual params body scope dvs kws f fd) (S : FnScope N ps scope) (hp : ps.length = n + 1) (hc : L2.Cls K C) (hn : ∀ p ∈ fl, NoAttr K C p.1) (hd : (fl.map (·.1)).Nodup) (hl : fl.length ≤ 1000) (hi : ∀ p ∈ fl, p.2 < n)
    (hb : ∀ (cdv : Value) (A : Around) (outer : List Env) (s : Shared) (H : Hp) (E : XK), PSs (cxOf (L2.CX P w) P w K mg base N qual scope f cdv A outer s H E) body (tIni K fl)) :
    FnOk P w K mg base (L2.CX P w) 1 f fd ps (spI C n fl) := by
  refine F.ok S (fun vs H Q E ⟨x, dx, us, e, hl, _⟩ => by rw [e, List.length_cons, hl, hp]) fun cdv A outer s H vs Q E hr ⟨x, dx, us, e, hu, hx, q⟩ => ?_
  subst e
  refine ⟨_, hb cdv A outer s H E, tIni_run (vs := []) rfl hc hn (fun p hp => ⟨_, valAt_start (by rw [hu]; exact hi p hp)⟩) (by simpa using hl) hx ?_⟩
  rw [putAll_eq _ hd (fun p hp => by cases hp), List.nil_append]
  have e : (fl.map fun p => (p.1, valAt (L2.start N (.ref x :: us)) (p.2 + 1))) = fl.map fun p => (p.1, us.getD p.2 .non) := by
    refine List.map_congr_left fun p hp => ?_
    have h := hi p hp
    rw [← hu] at h
    unfold valAt
    rw [valAt_start h, List.getD_eq_getElem?_getD, List.getElem?_eq_getElem h]
    rfl
  show Q .non (upd H x (.ins C dx _))
  rw [e]
  exact q
/-! ## making one -/
theorem Reps.getD {K : PySem.W.Frag} {U : Addr → Prop} {H : Hp} : ∀ {vs : List V} {ds : List D}, Reps K U H vs ds → ∀ i, Rep K U H (vs.getD i .non) (ds.getD i .none)
  | _, _, .nil, _ => .non
  | _, _, .cons r t, 0 => r
  | _, _, .cons r t, i + 1 => by simpa using Reps.getD t i
theorem repF_of {K : PySem.W.Frag} {U : Addr → Prop} {H : Hp} {vs : List V} {ds : List D} (r : Reps K U H vs ds) : ∀ fl : List (Str × Nat), RepF K U H (fl.map fun p => (p.1, vs.getD p.2 .non)) (fl.map fun p => (.tuple [.str p.1], ds.getD p.2 .none))
  | [] => .nil
  | p :: fl => .cons (r.getD p.2) (repF_of r fl)
section
variable {X : Cx} {H0 : Ent} {W : WX} {n : Nat} {f C : Addr} {fd : FuncData} {ps : List Str} {c : Str} {fl : List (Str × Nat)} {p pos : Pos} {e : Expr} {es : List Expr} {fa : Rho → Out (List D)}
theorem de_new (hn : PySem.W.nsIn X.K mainGlobals c = some (some (.ref C))) (M : Mk X.K C f) (F : FnOk X.prog X.w X.K X.mg X.base (L2.CX X.prog X.w) 1 f fd ps (spI C n fl)) (hr : Room 2 X.A) (hg : Gl X c) (hm : X.mg c = some (.ref C)) (hb : Binds X.K fd ps [])
    (ha : DA X H0 W false (e :: es) fa) (hdb : (c == ("__debug__" : Str)) = false) (he : starEach (e :: es) X.env = (false, eval e X.env) :: starEach es X.env) (hpl : (backTo pos (starEach es X.env)).any (·.1) = false) :
    DE X H0 W .f (.Call (.Name c p) (e :: es) [] pos) fun ρ => (fa ρ).bind (newD c n fl) :=
  PE.imp (pe_make (dvs := []) (ds := []) (E := fun _ _ _ => False) M F hr hg hm hb .nil (fun _ _ _ _ _ _ _ z => by
    obtain ⟨_, _, _, _, _, _, _, _, _, _, _, _, z⟩ := z
    exact z.elim) ha hdb he hpl) fun σ H Q ⟨ρ, U, P, q⟩ => by
    refine ⟨ρ, U, P, ?_⟩
    replace q : PostM X W .f σ H U Q ((fa ρ).bind (newD c n fl)) := q
    revert q
    cases fa ρ with
    | exc c fs => exact fun q => q
    | stuck => exact fun q => q
    | ok ds =>
      intro q vs H1 s1 r1 x dx hx hdx hne
      replace q : PostM X W .f σ H U Q (newD c n fl ds) := q
      unfold newD at q
      split at q
      case isFalse => exact q.elim
      rename_i hlen
      have r1 : Reps X.K U H1 vs ds := r1
      refine ⟨x, dx, vs, by rw [List.append_nil], by rw [r1.length, hlen], upd_same, rfl, ?_⟩
      rw [upd_upd]
      have s2 : Same H1 (upd (upd H1 dx (.own x)) x (.ins C dx (fl.map fun p => (p.1, vs.getD p.2 .non)))) := (same_new hdx).trans (same_new (by rw [upd_ne (Ne.symm hne)]; exact hx))
      have P1 := P.same s1
      refine q _ _ (s1.trans s2) ⟨x, rfl, s1.free hx, .inr ⟨C, dx, c, _, _, rfl, upd_same, hn, repF_of (r1.mono ?_) fl⟩⟩
      exact ⟨fun a o ea _ => s2 a o ea, fun a z => z.imp id fun e => by rw [e]; exact hx⟩
end
end Mp
namespace Mp
open PySem PySem.Spec PyProof.Rows L2
/-! ## len(set(xs)), sorted(set(xs)) -/
def strsD : List D → Option (List Str)
  | [] => some []
  | .str x :: ds => (strsD ds).map (x :: ·)
  | _ => none
theorem strsD_eq : ∀ {ds : List D} {ns : List Str}, strsD ds = some ns → ds = ns.map .str
  | [], ns, h => by
    cases h
    rfl
  | d :: ds, ns, h => by
    cases d with
    | str x =>
      unfold strsD at h
      obtain ⟨ms, h1, rfl⟩ := Option.map_eq_some_iff.mp h
      rw [strsD_eq h1]
      rfl
    | _ => cases h
theorem strsD_map : ∀ ns : List Str, strsD (ns.map .str) = some ns
  | [] => rfl
  | n :: ns => by
    show (strsD (ns.map .str)).map (n :: ·) = _
    rw [strsD_map ns]
    rfl
def dedS : List Str → List Str
  | [] => []
  | x :: xs => if x ∈ xs then dedS xs else x :: dedS xs
theorem mem_dedS : ∀ (xs : List Str) (k : Str), k ∈ dedS xs ↔ k ∈ xs
  | [], k => Iff.rfl
  | x :: xs, k => by
    unfold dedS
    split
    · rename_i h
      rw [mem_dedS xs k, List.mem_cons]
      exact ⟨.inr, fun z => z.elim (fun e => by rw [e]; exact h) id⟩
    · rw [List.mem_cons, List.mem_cons, mem_dedS xs k]
theorem nodup_dedS : ∀ xs : List Str, (dedS xs).Nodup
  | [] => List.nodup_nil
  | x :: xs => by
    unfold dedS
    split
    · exact nodup_dedS xs
    · rename_i h
      exact List.nodup_cons.mpr ⟨fun z => h ((mem_dedS xs x).mp z), nodup_dedS xs⟩
theorem dedS_nodup : ∀ {xs : List Str}, xs.Nodup → dedS xs = xs
  | [], _ => rfl
  | x :: xs, h => by
    obtain ⟨h1, h2⟩ := List.nodup_cons.mp h
    unfold dedS
    rw [if_neg h1, dedS_nodup h2]
theorem dedS_perm {xs ns : List Str} (h : xs.Nodup) (hm : ∀ k, k ∈ xs ↔ k ∈ ns) : xs.Perm (dedS ns) := by
  have a : ∀ k, k ∈ xs ↔ k ∈ dedS ns := fun k => (hm k).trans (mem_dedS ns k).symm
  have l1 := len_le h a
  have l2 := len_le (nodup_dedS ns) fun k => (a k).symm
  exact perm_of_sub (nodup_dedS ns) (fun k hk => (a k).mpr hk) (by omega)
def lenSetF : D → Out D
  | .list ds => match strsD ds with
    | some ns => if ns.length < 64 then .ok (.int (dedS ns).length) else .stuck
    | none => .stuck
  | _ => .stuck
def sortSetF : D → Out D
  | .list ds => match strsD ds with
    | some ns => if ns.length < 64 then .ok (.list ((sortS (dedS ns)).map .str)) else .stuck
    | none => .stuck
  | _ => .stuck
section
variable {X : Cx} {H0 : Ent} {W : WX} {a : Expr} {fa : Rho → Out D} {p p2 q pos : Pos}
theorem de_lenSet (hc : X.calm = true) (hg : Gl X "len") (hm : X.mg "len" = none) (hg2 : Gl X "set") (hm2 : X.mg "set" = none) (ha : DE X H0 W .b a fa) (na : starEach [a] X.env = (false, eval a X.env) :: starEach [] X.env) :
    DE X H0 W .v (.Call (.Name "len" p) [.Call (.Name "set" p2) [a] [] q] [] pos) fun ρ => (fa ρ).bind lenSetF :=
  PE.imp (pe_lenTx hc hg hm hg2 hm2 ha na) fun σ H Q ⟨ρ, U, P, q⟩ => ⟨ρ, U, P, PostM.first (ma := .b) P q fun d v H1 s1 P1 r1 q1 => by
    cases d with
    | list ds =>
      obtain ⟨l, vs, rfl, h1, t1⟩ := BRep.lst (show BRep X.K U H1 v (.list ds) from r1)
      replace q1 : PostM X W .v σ H1 U Q (match strsD ds with
        | some ns => if ns.length < 64 then .ok (.int (dedS ns).length) else .stuck
        | none => .stuck) := q1
      split at q1
      · rename_i ns hs
        split at q1
        · rename_i hl
          rw [strsD_eq hs] at t1
          rw [Reps.strs t1] at h1
          refine ⟨l, ns, rfl, .inl h1, hl, fun xs nd hm => ?_⟩
          rw [(dedS_perm nd hm).length_eq]
          exact q1.val (.int _)
        · exact q1.elim
      · exact q1.elim
    | _ => exact q1.elim⟩
theorem de_sortSet (hc : X.calm = true) (hg : Gl X "sorted") (hm : X.mg "sorted" = none) (hg2 : Gl X "set") (hm2 : X.mg "set" = none) (ha : DE X H0 W .b a fa) (na : starEach [a] X.env = (false, eval a X.env) :: starEach [] X.env) :
    DE X H0 W .f (.Call (.Name "sorted" p) [.Call (.Name "set" p2) [a] [] q] [] pos) fun ρ => (fa ρ).bind sortSetF :=
  PE.imp (pe_sortTx hc hg hm hg2 hm2 ha na) fun σ H Q ⟨ρ, U, P, q⟩ => ⟨ρ, U, P, PostM.first (ma := .b) P q fun d v H1 s1 P1 r1 q1 => by
    cases d with
    | list ds =>
      obtain ⟨l, vs, rfl, h1, t1⟩ := BRep.lst (show BRep X.K U H1 v (.list ds) from r1)
      replace q1 : PostM X W .f σ H1 U Q (match strsD ds with
        | some ns => if ns.length < 64 then .ok (.list ((sortS (dedS ns)).map .str)) else .stuck
        | none => .stuck) := q1
      split at q1
      · rename_i ns hs
        split at q1
        · rename_i hl
          rw [strsD_eq hs] at t1
          rw [Reps.strs t1] at h1
          refine ⟨l, ns, rfl, .inl h1, hl, fun xs ys p nd hm h3 h4 hp => ?_⟩
          rw [sortS_the (h3.trans (dedS_perm nd hm)) h4]
          exact PostM.lst q1 (fun p hp => P1.fresh hp) (Reps.of_strs _) p hp
        · exact q1.elim
      · exact q1.elim
    | _ => exact q1.elim⟩
end
end Mp
namespace Mp
open PySem PySem.Spec PyProof.Rows L2
/-! ## [.. for k in d ..], d a dict that nobody owns -/
theorem PE.ex {ι : Type} {X : Cx} {e : Expr} {t : ι → TE} (h : ∀ i, PE X e (t i)) : PE X e fun σ H Q => ∃ i, t i σ H Q := ⟨fun pins s σ H Q I ⟨i, q⟩ => (h i).run pins s σ H Q I q⟩
theorem PE.or {X : Cx} {e : Expr} {t t' : TE} (h : PE X e t) (h' : PE X e t') : PE X e fun σ H Q => t σ H Q ∨ t' σ H Q := ⟨fun pins s σ H Q I q => q.elim (h.run pins s σ H Q I) (h'.run pins s σ H Q I)⟩
/-- what is read of a heap is read of the other -/
structure RdK (H H' : Hp) : Prop where
  rl : ∀ a xs, Rd H a (.lst xs) → Rd H' a (.lst xs)
  rd : ∀ a xs, Rd H a (.dK xs) → Rd H' a (.dK xs)
  tp : ∀ a xs, TupN H a xs → TupN H' a xs
  ins : ∀ a C dx vs, H a = some (.ins C dx vs) → H' a = some (.ins C dx vs)
section
variable {K : PySem.W.Frag} {U : Addr → Prop} {H H' : Hp}
mutual
theorem Rep.rdk (p : RdK H H') : ∀ {v : V} {d : D}, Rep K U H v d → Rep K U H' v d
  | _, _, .non => .non
  | _, _, .bl b => .bl b
  | _, _, .int i => .int i
  | _, _, .str x => .str x
  | _, _, .tup h r => .tup (h.imp (fun q => ⟨q.1, p.tp _ _ q.2⟩) id) (Reps.rdk p r)
  | _, _, .lst h1 h2 r => .lst h1 (p.rl _ _ h2) (Reps.rdk p r)
  | _, _, .dct h1 h2 r => .dct h1 (p.rd _ _ h2) (RepK.rdk p r)
  | _, _, .ins h1 h2 h3 r => .ins h1 (p.ins _ _ _ _ h2) h3 (RepF.rdk p r)
theorem Reps.rdk (p : RdK H H') : ∀ {vs : List V} {ds : List D}, Reps K U H vs ds → Reps K U H' vs ds
  | _, _, .nil => .nil
  | _, _, .cons r t => .cons (Rep.rdk p r) (Reps.rdk p t)
theorem RepK.rdk (p : RdK H H') : ∀ {vs : List (Key × V)} {ds : List (D × D)}, RepK K U H vs ds → RepK K U H' vs ds
  | _, _, .nil => .nil
  | _, _, .cons r t => .cons (Rep.rdk p r) (RepK.rdk p t)
theorem RepF.rdk (p : RdK H H') : ∀ {vs : List (Str × V)} {ds : List (D × D)}, RepF K U H vs ds → RepF K U H' vs ds
  | _, _, .nil => .nil
  | _, _, .cons r t => .cons (Rep.rdk p r) (RepF.rdk p t)
end
theorem Own.rdk (p : RdK H H') {a : Addr} {d : D} (ha : ∀ o, H a = Option.some o → H' a = Option.some o) (h : Own K U H a d) : Own K U H' a d := by
  cases d with
  | list ds =>
    obtain ⟨vs, e, r⟩ := h
    exact ⟨vs, ha _ e, r.rdk p⟩
  | dict es =>
    rcases h with ⟨vs, e, r⟩ | ⟨C, dx, c, vs, fs, e0, e, n, r⟩
    · exact .inl ⟨vs, ha _ e, r.rdk p⟩
    · exact .inr ⟨C, dx, c, vs, fs, e0, ha _ e, n, r.rdk p⟩
  | _ => exact h.elim
theorem rdk_lock {a : Addr} {kvs : List (Key × V)} (od : Obj) (h : H a = some (.dK kvs)) : RdK H (upd H a (.frz od (.dK kvs))) where
  rl := fun b o q => by
    have e : b ≠ a := fun e => by
      rw [e] at q
      rcases q with q | ⟨z, q⟩ <;> (rw [h] at q; cases q)
    exact q.imp (fun q => by rw [upd_ne e]; exact q) fun ⟨z, q⟩ => ⟨z, by rw [upd_ne e]; exact q⟩
  rd := fun b o q => by
    by_cases e : b = a
    · subst e
      rcases q with q | ⟨z, q⟩
      · rw [h] at q
        cases q
        exact .inr ⟨od, upd_same⟩
      · rw [h] at q
        cases q
    · exact q.imp (fun q => by rw [upd_ne e]; exact q) fun ⟨z, q⟩ => ⟨z, by rw [upd_ne e]; exact q⟩
  tp := fun b xs ⟨z, q, r⟩ => by
    have e : b ≠ a := fun e => by
      rw [e, h] at q
      cases q
    exact ⟨z, by rw [upd_ne e]; exact q, r⟩
  ins := fun b C dx vs q => by
    have e : b ≠ a := fun e => by
      rw [e, h] at q
      cases q
    rw [upd_ne e]
    exact q
theorem rdk_unlock {a : Addr} {kvs : List (Key × V)} {od : Obj} (h : H a = some (.frz od (.dK kvs))) : RdK H (upd H a (.dK kvs)) where
  rl := fun b o q => by
    have e : b ≠ a := fun e => by
      rw [e] at q
      rcases q with q | ⟨z, q⟩ <;> (rw [h] at q; cases q)
    exact q.imp (fun q => by rw [upd_ne e]; exact q) fun ⟨z, q⟩ => ⟨z, by rw [upd_ne e]; exact q⟩
  rd := fun b o q => by
    by_cases e : b = a
    · subst e
      rcases q with q | ⟨z, q⟩
      · rw [h] at q
        cases q
      · rw [h] at q
        cases q
        exact .inl upd_same
    · exact q.imp (fun q => by rw [upd_ne e]; exact q) fun ⟨z, q⟩ => ⟨z, by rw [upd_ne e]; exact q⟩
  tp := fun b xs ⟨z, q, r⟩ => by
    have e : b ≠ a := fun e => by
      rw [e, h] at q
      cases q
    exact ⟨z, by rw [upd_ne e]; exact q, r⟩
  ins := fun b C dx vs q => by
    have e : b ≠ a := fun e => by
      rw [e, h] at q
      cases q
    rw [upd_ne e]
    exact q
end
/-- the slots, the dict at a locked -/
def lockE (H0 : Ent) (a : Addr) (od : Obj) (kvs : List (Key × V)) : Ent := ⟨fun b => if b = a then (if H0.h a = none then none else some (.frz od (.dK kvs))) else H0.h b, H0.b⟩
theorem Pt.lock {K : PySem.W.Frag} {H0 : Ent} {σ : L2.St} {H : Hp} {ρ : Rho} {U : Addr → Prop} (P : Pt K H0 σ H ρ U) {a : Addr} {kvs : List (Key × V)} (od : Obj) (h : H a = some (.dK kvs)) (hu : ¬ U a) : Pt K (lockE H0 a od kvs) σ (upd H a (.frz od (.dK kvs))) ρ U where
  len := P.len
  sl := fun i => by
    have q := P.sl i
    revert q
    cases ρ[i]? with
    | none => exact fun q => q
    | some o => cases o with
      | none => exact fun q => q
      | some p =>
        obtain ⟨b, d⟩ := p
        cases b with
        | false => exact fun ⟨x, e, r⟩ => ⟨x, e, r.rdk (rdk_lock od h)⟩
        | true => exact fun ⟨x, e, u, h0, r⟩ => ⟨x, e, u, by
            have ne : x ≠ a := fun z => hu (by rw [← z]; exact u)
            show (if x = a then _ else H0.h x) = none
            rw [if_neg ne]
            exact h0, r.rdk (rdk_lock od h) fun o q => by
              have ne : x ≠ a := fun z => hu (by rw [← z]; exact u)
              rw [upd_ne ne]
              exact q⟩
  ne := P.ne
  ud := fun b z => by
    obtain ⟨o, e, m⟩ := P.ud b z
    have ne : b ≠ a := fun q => hu (by rw [← q]; exact z)
    exact ⟨o, by rw [upd_ne ne]; exact e, m⟩
  bu := P.bu
  bd := fun b z => by
    obtain ⟨o, e⟩ := P.bd b z
    have ne : b ≠ a := fun q => hu (by rw [← q]; exact P.bu b z)
    exact ⟨o, by
      show (if b = a then _ else H0.h b) = some o
      rw [if_neg ne]
      exact e⟩
  s0 := fun b o e => by
    by_cases q : b = a
    · subst q
      replace e : (if b = b then (if H0.h b = none then none else some (HO.frz od (.dK kvs))) else H0.h b) = some o := e
      rw [if_pos rfl] at e
      split at e
      · cases e
      · cases e
        exact upd_same
    · replace e : (if b = a then (if H0.h a = none then none else some (HO.frz od (.dK kvs))) else H0.h b) = some o := e
      rw [if_neg q] at e
      rw [upd_ne q]
      exact P.s0 _ _ e
def keysD (es : List (D × D)) : List D := es.map (·.1)
theorem RepK.keysAt {K : PySem.W.Frag} {U : Addr → Prop} {H : Hp} : ∀ {kvs : List (Key × V)} {es : List (D × D)}, RepK K U H kvs es → ∀ (i : Nat) (d : D), (keysD es)[i]? = some d → ∃ (k : Key) (v : V), kvs[i]? = some (k, v) ∧ d = keyD k
  | _, _, .nil, i, d, h => by cases h
  | _, _, .cons r t, 0, d, h => by
    cases h
    exact ⟨_, _, rfl, rfl⟩
  | _, _, .cons r t, i + 1, d, h => RepK.keysAt t i d h
theorem rep_key {K : PySem.W.Frag} {U : Addr → Prop} {H : Hp} (k : Key) : Rep K U H (kV k) (keyD k) := by
  cases k with
  | inl i => exact .int i
  | inr x => exact .str x
theorem jd_keys {K : PySem.W.Frag} {w : Bool} {U U0 : Addr → Prop} {H H1 : Hp} {a : Addr} {od : Obj} {kvs : List (Key × V)} {es : List (D × D)} (h : H a = some (.frz od (.dK kvs))) (r : RepK K U0 H1 kvs es) : JD K w (Kb true U H) (Itk a od kvs) (keysD es) := fun U' H' k => by
  obtain ⟨_, _, s⟩ := k
  have h' := s _ _ h
  have hl : (keysD es).length = kvs.length := by unfold keysD; rw [List.length_map, r.length]
  refine ⟨⟨h', by rw [hl]; exact Nat.le_refl _⟩, fun i d hd => ?_⟩
  obtain ⟨k, v, e1, rfl⟩ := r.keysAt i d hd
  refine ⟨⟨h', (List.getElem?_eq_some_iff.mp e1).1⟩, fun y H'' ⟨e, k', v', e2, e3⟩ => ?_⟩
  subst e
  rw [e1] at e2
  cases e2
  rw [e3]
  exact ⟨Same.refl _, .rep (rep_key k)⟩
/-- what a comprehension walks: of a dict its keys -/
def itemsK : D → Out (List D)
  | .dict es => if insB es = true then .stuck else .ok (keysD es)
  | d => itemsD d
theorem nox_noexc (x : Out (List D)) (c : Str) (fs : List (Str × D)) : (noxO x).bind lstD ≠ .exc c fs := by
  cases x with
  | ok ds =>
    intro h
    replace h : lstD ds = .exc c fs := h
    unfold lstD at h
    split at h <;> cases h
  | exc c' fs' => exact fun h => nomatch h
  | stuck => exact fun h => nomatch h
section
variable {X : Cx} {W : WX}
/-- the walk over the locked dict -/
theorem lcK_rule {H0 : Ent} {w : Bool} {t : Tg} {ft : Rho → Out Bool} {fe : Rho → Out D} {vs : List Nat} {σ : L2.St} {H : Hp} {Q : VK} {ρ : Rho} {U : Addr → Prop} {i : Nat} {a : Addr} {od : Obj} {kvs : List (Key × V)} {es : List (D × D)} {U0 : Addr → Prop} {H1 : Hp}
    (hvs : ∀ j ∈ t.ixs, j ∈ vs) (P : Pt X.K H0 σ H ρ U) (hσ : σ[i]? = some (some (.ref a))) (h : H a = some (.frz od (.dK kvs))) (r : RepK X.K U0 H1 kvs es)
    (q : PostM X W .f σ H U Q ((noxO (lcL (turnD t ft fe (wipeR ρ vs)) (keysD es))).bind lstD)) :
    tLc (iKeys (tVar i)) (tDG X H0 w t) (tDT X H0 W0 ft) (tD X H0 W0 .v fe) vs σ H Q := by
  have z : tLc (tDI X H0 W w true fun _ => .ok (keysD es)) (tDG X H0 w t) (tDT X H0 W0 ft) (tD X H0 W0 .v fe) vs σ H Q := lc_rule hvs ⟨ρ, U, P, q⟩
  obtain ⟨ρ', U', P', pi⟩ := z
  exact ⟨.ref a, hσ, a, od, rfl, .inl ⟨kvs, h, pi (Itk a od kvs) H (Same.refl H) (jd_keys h r)⟩⟩
theorem de_lcK {H0 : Ent} {elt tg : Expr} {i : Nat} {x : Str} {p : Pos} {ifs : List Expr} {scope : Scope} {own : List (Str × Nat)} {pos : Pos} {t : Tg} {ft : Rho → Out Bool} {fe : Rho → Out D} (hc : X.calm = true) (hN : X.N.Nodup)
    (hx : X.N[i]? = some x) (hv : Vis X.env.scope x) (hd : (x == ("__debug__" : Str)) = false) (hcd : (x == ("__classdict__" : Str)) = false) (ok : BlkOk X.N X.env.scope scope own) (hvs : ∀ j ∈ t.ixs, j ∈ own.map (·.2))
    (hg : ∀ (H0 : Ent) s H C cl fp, DG (X.blk s H scope (compEnvC scope cl C X.env) fp) H0 tg t) (ht : ∀ (H0 : Ent) s H C cl fp, PTsD (X.blk s H scope (compEnvC scope cl C X.env) fp) H0 W0 ifs ft)
    (he : ∀ (H0 : Ent) s H C cl fp, DE (X.blk s H scope (compEnvC scope cl C X.env) fp) H0 W0 .v elt fe) :
    DE X H0 W .f (.ListComp elt [⟨tg, .Name x p, ifs, 0⟩] scope pos) fun ρ => ((getV ρ i).bind itemsK).bind fun ds => (noxO (lcL (turnD t ft fe (wipeR ρ (own.map (·.2)))) ds)).bind lstD := by
  have hs : ∀ x', foldedSetIterable (.Name x p) X.env x' = pure x' := fun _ => rfl
  have plain := de_lc (W := W) (pos := pos) hc hN (di_plain (tg := tg) (b := true) (DE.toB (de_var (H0 := H0) (W := W) (pos := p) hx hv hd hcd))) ok hvs (hg H0) (ht H0) (he H0) hs
  have open_ : PE X (.ListComp elt [⟨tg, .Name x p, ifs, 0⟩] scope pos) fun σ H Q => ∃ H0 : Ent, tLc (iKeys (tVar i)) (tDG X H0 (tpE tg) t) (tDT X H0 W0 ft) (tD X H0 W0 .v fe) (own.map (·.2)) σ H Q :=
    PE.ex fun H0 => pe_lc (g := tDG X H0 (tpE tg) t) (tt := tDT X H0 W0 ft) (te := tD X H0 W0 .v fe) hc hN (pi_keys (pe_var hx hv hd hcd)) ok (hg H0) (ht H0) (he H0) hs
  refine PE.imp (PE.or plain (PE.or open_ (pe_lock open_))) fun σ H Q ⟨ρ, U, P, q⟩ => ?_
  replace q : PostM X W .f σ H U Q (((getV ρ i).bind itemsK).bind fun ds => (noxO (lcL (turnD t ft fe (wipeR ρ (own.map (·.2)))) ds)).bind lstD) := q
  have sl := P.sl i
  unfold getV at q
  cases hi : ρ[i]? with
  | none => rw [hi] at q; exact q.elim
  | some o =>
  rw [hi] at q sl
  cases o with
  | none => exact q.elim
  | some bd =>
  obtain ⟨b, d⟩ := bd
  cases b with
  | true => exact q.elim
  | false =>
  obtain ⟨v, e1, rv⟩ := sl
  replace q : PostM X W .f σ H U Q ((itemsK d).bind fun ds => (noxO (lcL (turnD t ft fe (wipeR ρ (own.map (·.2)))) ds)).bind lstD) := q
  have other : (∀ es, d ≠ .dict es) → (itemsK d = itemsD d) := fun h => by
    cases d with
    | dict es => exact absurd rfl (h es)
    | _ => rfl
  by_cases hdd : ∃ es, d = .dict es
  · obtain ⟨es, rfl⟩ := hdd
    refine .inr ?_
    replace q : PostM X W .f σ H U Q ((if insB es = true then Out.stuck else .ok (keysD es)).bind fun ds => (noxO (lcL (turnD t ft fe (wipeR ρ (own.map (·.2)))) ds)).bind lstD) := q
    split at q
    · exact q.elim
    rename_i hins
    replace q : PostM X W .f σ H U Q ((noxO (lcL (turnD t ft fe (wipeR ρ (own.map (·.2)))) (keysD es))).bind lstD) := q
    cases rv with
    | ins _ _ _ _ => exact absurd rfl hins
    | @dct a kvs _ hu h1 r =>
      rcases h1 with h1 | ⟨od, h1⟩
      · refine .inr ⟨a, .dK kvs, h1, trivial, fun od => ⟨lockE H0 a od kvs, lcK_rule (W := W) hvs (P.lock od h1 hu) e1 upd_same r ?_⟩⟩
        have hL : upd H a (.frz od (.dK kvs)) a = some (.frz od (.dK kvs)) := upd_same
        revert q
        cases hz : (noxO (lcL (turnD t ft fe (wipeR ρ (own.map (·.2)))) (keysD es))).bind lstD with
        | exc c fs => exact absurd hz (nox_noexc _ _ _)
        | stuck => exact fun q => q
        | ok d =>
          intro q v H' s' ⟨y, ey, hy, ow⟩
          have hf := s' _ _ hL
          have ya : y ≠ a := fun z => by
            rw [z, hL] at hy
            cases hy
          rw [upd_ne ya] at hy
          refine ⟨hf, q v _ (fun b o e => ?_) ⟨y, ey, hy, ow.rdk (rdk_unlock hf) fun o e => by rw [upd_ne ya]; exact e⟩⟩
          by_cases z : b = a
          · rw [z] at e ⊢
            rw [h1] at e
            cases e
            exact upd_same
          · rw [upd_ne z]
            exact s' _ _ (by rw [upd_ne z]; exact e)
      · exact .inl ⟨H0, lcK_rule (W := W) hvs P e1 h1 r q⟩
  · refine .inl ⟨ρ, U, P, ?_⟩
    have e2 : getV ρ i = .ok d := by unfold getV; rw [hi]
    show PostM X W .f σ H U Q (((getV ρ i).bind itemsD).bind fun ds => (noxO (lcL (turnD t ft fe (wipeR ρ (own.map (·.2)))) ds)).bind lstD)
    rw [e2]
    show PostM X W .f σ H U Q ((itemsD d).bind fun ds => (noxO (lcL (turnD t ft fe (wipeR ρ (own.map (·.2)))) ds)).bind lstD)
    rw [← other fun es e => hdd ⟨es, e⟩]
    exact q
end
end Mp
namespace Mp
open PySem PySem.Spec PyProof.Rows L2
/-! ## x.extend(list), f() -/
def rExtR : V → List V → Hp → VK → Prop := fun x vs H Q => ∃ l b xs zs, x = .ref l ∧ vs = [.ref b] ∧ H l = some (.lst xs) ∧ Rd H b (.lst zs) ∧ xs.length + zs.length ≤ sizeLine ∧ Q .non (upd H l (.lst (xs ++ zs)))
theorem mt_extR {X : Cx} : MtM X "list.extend" rExtR := by
  intro pins s σ H x vs v us Q I rx rv h
  obtain ⟨l, b, xs, zs, rfl, rfl, hH, hB, hz, q⟩ := h
  cases rx
  obtain ⟨u, rfl, ru⟩ := rv.one
  cases ru
  obtain ⟨z, its, n, r, hl, e⟩ := I.lstM hH
  obtain ⟨z2, its2, n2, r2, e2⟩ := rd_lst I hB
  have l2 := r2.length
  have size_ok : its.toArray.size + its2.toArray.size ≤ sizeLine := by rw [List.size_toArray, List.size_toArray]; omega
  have short : ¬ (!its.toArray.isEmpty && Builtin.List.listTooLong (its.toArray.size + its2.toArray.size)) = true := by rw [notLongL size_ok, Bool.and_false]; decide
  refine call_meets F.slot_list_extend ⟨_, e, rfl⟩ F.entry_list_extend (F.args_list_extend_2 _ _) (AutoSeq1.list_extend_list_list_0 l its.toArray n b its2.toArray n2 short (by rw [List.size_toArray]; omega) (by omega)) ⟨e, e2, .non, _, I.lset (its' := its ++ its2) hH e (by simp) (r.append r2) (by rw [List.length_append]; omega), rfl, q⟩
/-- the list behind it -/
def extD (i : Nat) (ρ : Rho) (d : D) : SOut := match ρ[i]? with
  | some (some (true, .list ds)) => match d with
    | .list es => if ds.length + es.length ≤ sizeLine then .nx (ρ.set i (some (true, .list (ds ++ es)))) else .stuck
    | _ => .stuck
  | _ => .stuck
section
variable {X : Cx} {H0 : Ent} {W : WX}
theorem ds_extend {i : Nat} {x : Str} {e : Expr} {f : Rho → Out D} {p apos cpos pos : Pos} (hN : X.N[i]? = some x) (hv : Vis X.env.scope x) (hd : (x == ("__debug__" : Str)) = false) (hcd : (x == ("__classdict__" : Str)) = false) (h : DE X H0 W .v e f)
    (hs1 : starEach [e] X.env = [(false, eval e X.env)]) (hline : (apos.endLine == cpos.line) = true) :
    DS X H0 W (.Expr (.Call (.Attribute (.Name x p) "extend" apos) [e] [] cpos) pos) fun ρ => if ownL i ρ = true then (f ρ).st ρ (extD i ρ) else .stuck :=
  PS.imp (ps_expr (pe_bm (T := "list") (id := "list.extend") F.plainAttrs_list F.slot_list_extend F.type_list_extend mt_extR (pe_var hN hv hd hcd) (pa_cons h pa_nil hs1) rfl (by rw [hs1]; rfl) hline hs1 rfl) rfl) fun Dn σ H ⟨ρ, U, P, q⟩ => by
    replace q : PostS X H0 W Dn H U (if ownL i ρ = true then (f ρ).st ρ (extD i ρ) else .stuck) := q
    split at q
    case isFalse => exact q.elim
    rename_i hown
    unfold ownL at hown
    split at hown
    case h_2 => cases hown
    rename_i ds hi
    have hs := P.sl i
    rw [hi] at hs
    obtain ⟨a, e1, hu, h0, vs, e2, rs⟩ := hs
    refine ⟨.ref a, e1, .inl ⟨rfl, vs, .inl (.inl e2)⟩, ρ, U, P, PostS.expr P q fun d v H' _ s P' r q' => ?_⟩
    unfold extD at q'
    rw [hi] at q'
    cases d with
    | list es =>
      replace q' : PostS X H0 W Dn H' U (if ds.length + es.length ≤ sizeLine then .nx (ρ.set i (some (true, .list (ds ++ es)))) else .stuck) := q'
      split at q'
      · rename_i hz
        have l := rs.length
        have r : Rep X.K U H' v (.list es) := r
        obtain ⟨b, zs, rfl, hb, rz⟩ := BRep.lst (.inl r)
        have lz := rz.length
        refine ⟨a, b, vs, zs, rfl, rfl, s _ _ e2, hb, by omega, ?_⟩
        obtain ⟨P2, k2⟩ := P'.write (d' := .list (ds ++ es)) (o := .lst (vs ++ zs)) hi e1 (.inl ⟨_, rfl⟩) fun k => ⟨_, upd_same, ((rs.mono (Kp.same s)).mono k).append (rz.mono k)⟩
        exact q' _ _ U k2 P2
      · exact q'.elim
    | _ => exact q'.elim
/-! ### calls without arguments -/
variable {k n : Nat} {f : Addr} {fd : FuncData} {ps : List Str} {g : List D → Out D} {x : Str} {p pos : Pos}
theorem de_call0 (F : FnOk X.prog X.w X.K X.mg X.base (L2.CX X.prog X.w) k f fd ps (spG X.mg X.K n g)) (hgn : ∀ ds, ds.length ≠ n → g ds = .stuck) (hr : Room k X.A) (hg : Gl X x) (hm : X.mg x = some (.ref f)) (hk : PySem.W.keepIn X.K (.ref f) = true) (hb : Binds X.K fd ps []) (tk : Takes X W)
    (hdb : (x == ("__debug__" : Str)) = false) : DE X H0 W .v (.Call (.Name x p) [] [] pos) fun _ => g [] :=
  ⟨fun pins s σ H Q I ⟨ρ, U, P, q⟩ => by
    refine wpAny_Call_Name_kw (ld_glob I hg hm ?_ hdb)
    refine PySem.W.callWith_K0 I.kIn hk (run_fnS (E := WE W) (us := []) (vs := []) F hr hb (passAt tk σ) I .nil ?_)
    replace q : PostM X W .v σ H U Q (g []) := q
    refine ⟨U, [], P.ud, .nil, nAr hgn (P := PostM X W .v σ H U Q) (fun z => z) q, ?_⟩
    revert q
    cases g [] with
    | exc c fs => exact fun q cls dd H' s' z => q cls dd H' s' z
    | stuck => exact fun q => q
    | ok d => exact fun q v H' s' r => q v H' s' r⟩
end
end Mp
namespace Mp
open PySem PySem.Spec PyProof.Rows L2
/-! ## x, y = [], [] -/
def emptyD : D → Bool
  | .list [] => true
  | .dict [] => true
  | _ => false
theorem own_empty {K : PySem.W.Frag} {U U' : Addr → Prop} {H H' : Hp} {a : Addr} {d : D} (e : emptyD d = true) (r : Own K U H a d) (h : ∀ o, H a = some o → H' a = some o) : Own K U' H' a d := by
  cases d with
  | list ds =>
    cases ds with
    | nil =>
      obtain ⟨vs, e1, r1⟩ := r
      cases r1
      exact ⟨[], h _ e1, .nil⟩
    | cons _ _ => cases e
  | dict es =>
    cases es with
    | nil =>
      rcases r with ⟨vs, e1, r1⟩ | ⟨_, _, _, _, _, z, _⟩
      · cases r1
        exact .inl ⟨[], h _ e1, .nil⟩
      · cases z
    | cons _ _ => cases e
  | _ => cases e
section
variable {X : Cx} {H0 : Ent} {W : WX}
theorem ds_par00 {i j : Nat} {x y : Str} {a b : Expr} {px py pt pos : Pos} {kt k2 : Nat} {pt2 : Pos} {d e : D} (hc : X.calm = true) (hN : X.N.Nodup) (hi : X.N[i]? = some x) (hj : X.N[j]? = some y) (hij : i ≠ j)
    (hx : X.env.scope.names.lookup x = some .local) (hy : X.env.scope.names.lookup y = some .local) (hd : emptyD d = true) (he : emptyD e = true) (ha : DE X H0 W .f a fun _ => .ok d) (hb : DE X H0 W .f b fun _ => .ok e)
    (h1 : starEach [a, b] X.env = (false, eval a X.env) :: starEach [b] X.env) (h2 : starEach [b] X.env = (false, eval b X.env) :: starEach [] X.env)
    (hw : swappedStores [.Tuple [.Name x px, .Name y py] kt pt] (.Tuple [a, b] k2 pt2) X.env = pure (some [x, y]))
    (hs : swapsWithSole [.Tuple [.Name x px, .Name y py] kt pt] (.Tuple [a, b] k2 pt2) pos.line X.env = pure false) :
    DS X H0 W (.Assign [.Tuple [.Name x px, .Name y py] kt pt] (.Tuple [a, b] k2 pt2) pos) fun ρ => .nx ((ρ.set i (some (true, d))).set j (some (true, e))) :=
  PS.imp (ps_par hc hN hi hj hij hx hy (pa_cons ha (pa_cons hb pa_nil h2) h1) hw hs) fun Dn σ H ⟨ρ, U, P, q⟩ => by
    replace q : PostS X H0 W Dn H U (.nx ((ρ.set i (some (true, d))).set j (some (true, e)))) := q
    refine ⟨ρ, U, P, fun v H1 s1 r1 => ⟨ρ, U, P.same s1, fun w H2 s2 r2 => ?_⟩⟩
    obtain ⟨p, rfl, n1, o1⟩ := r1
    obtain ⟨r, rfl, n2, o2⟩ := r2
    have s12 := s1.trans s2
    have hne : r ≠ p := fun z => by
      obtain ⟨o, eo⟩ := o1.some
      rw [z, eo] at n2
      cases n2
    have free : ∀ {z : Addr}, H z = none → H0.h z = none := fun {z} hz => by
      cases e0 : H0.h z with
      | none => rfl
      | some o =>
        have := P.s0 _ _ e0
        rw [hz] at this
        cases this
    have P1 := P.same s1
    have f1 : Kp U (fun b => U b ∨ b = p) H H1 := ⟨fun a o ea _ => s1 a o ea, fun a z => z.imp id fun ez => by rw [ez]; exact n1⟩
    have Pa := P1.new s1 i (P.fresh n1) (free n1) (own_empty hd o1 fun o ho => ho) f1 P
    have nr : ¬ (U r ∨ r = p) := fun z => z.elim (fun z => P1.fresh n2 z) hne
    have f2 : Kp (fun b => U b ∨ b = p) (fun b => (U b ∨ b = p) ∨ b = r) H1 H2 := ⟨fun a o ea _ => s2 a o ea, fun a z => z.imp id fun ez => by rw [ez]; exact n2⟩
    have Pb := (Pa.same s2).new s2 j nr (free (s1.free n2)) (own_empty he o2 fun o ho => ho) f2 Pa
    have f3 : Kp U (fun b => (U b ∨ b = p) ∨ b = r) H H2 := Kp.tr f1 f2
    exact ⟨_, _, rfl, q _ _ _ f3 Pb⟩
end
end Mp
namespace Mp
open PySem PySem.Spec PyProof.Rows L2
/-! ## enumerate(tuple) -/
abbrev itT (t : Addr) : Obj := { cls := .type "tuple_iterator", data := .fields #[.ref t, .int 0 0] }
abbrev enO (it : Addr) : Obj := { cls := .type "enumerate", data := .fields #[.none, .bool false, .ref it, rawInt 0, .none, .none] }
theorem meets_enT (t : Addr) (items : Array Value) : Meets (Builtin.«enumerate.__new__» ⟨[.type "enumerate", .ref t], []⟩) (fun _ R s => s.heap.IsTuple t items ∧
    R (.ok (.ret (.ref (s.heap.push (itT t)).objs.size))) { s with heap := (s.heap.push (itT t)).push (enO s.heap.objs.size) }) :=
  .of_wp fun prog w A R s h => by
    obtain ⟨hp, g, d, tk, os⟩ := s
    obtain ⟨ht, h⟩ := h
    have sub := sub_enumerate
    have go : ∀ {A' : Around} {E : Value → Shared → Prop} {Q : Value → Shared → Prop}, Q (.ref hp.objs.size) ⟨hp.push (itT t), g, d, tk, os⟩ → wpAny (model prog w) A' (pyIter (.ref t)) Q E ⟨hp, g, d, tk, os⟩ := fun q => wpAny_pyIter_tuple ht q
    wp_walk using go
    refine wpAny_stack_any fun st => wpAny_pure ?_
    split
    · rename_i c _ _ _ _ _
      cases (c == Value.type "enumerate") <;> (wp_walk using go; exact ⟨_, rfl, h⟩)
    · wp_walk using go
      exact ⟨_, rfl, h⟩
theorem call_enT {P : Program} {w : World} {A : Around} {E : Value → Shared → Prop} {s : Shared} {t : Addr} {items : Array Value} {Q : Value → Shared → Prop} (hT : s.heap.IsTuple t items)
    (h : ∀ h', IsEnum h' (s.heap.objs.size + 1) s.heap.objs.size 0 .none → h'.IsTupleIter s.heap.objs.size t 0 → (∀ b o, s.heap.get? b = some o → h'.get? b = some o) → Q (.ref (s.heap.objs.size + 1)) { s with heap := h' }) :
    wpAny (model P w) A (call (.type "enumerate") [.ref t]) Q E s := by
  refine callType_new F.called_enumerate (by decide) (F.typeCall_enumerate_1 _) (F.newCall_enumerate_1 _) (fun obj => F.args_object_init_2 obj _) F.entry_enumerate_new (meets_enT t items) ⟨hT, ?_⟩
  have sz : (s.heap.push (itT t)).objs.size = s.heap.objs.size + 1 := Heap.size_push ..
  have he : IsEnum ((s.heap.push (itT t)).push (enO s.heap.objs.size)) (s.heap.objs.size + 1) s.heap.objs.size 0 .none := by
    have q := Heap.get?_push_size (s.heap.push (itT t)) (o := enO s.heap.objs.size) rfl
    rw [sz] at q
    exact q
  show _ ∧ _
  rw [sz]
  exact ⟨⟨_, he, rfl⟩, h _ he ⟨_, Heap.get?_push_of_some _ (Heap.get?_push_size _ rfl), rfl, rfl⟩ fun b o x => Heap.get?_push_of_some _ (Heap.get?_push_of_some _ x)⟩
theorem end_enT {P : Program} {w : World} {A : Around} {E : Value → Shared → Prop} {s : Shared} {e it t : Addr} {i : Nat} {items : Array Value} {k : Int} {old : Value} {Q : Option Value → Shared → Prop} (hh : A.handled = none)
    (he : IsEnum s.heap e it k old) (hit : s.heap.IsTupleIter it t i) (ht : s.heap.IsTuple t items) (hx : items[i]? = none) (hQ : ∀ h', Heap.ExtBut it s.heap h' → Q none { s with heap := h' }) : wpAny (model P w) A (pyNext (.ref e)) Q E s := by
  have ty : s.TypeIs (.ref e) "enumerate" := ⟨_, he, rfl⟩
  unfold pyNext
  refine wpAny_bind (wpAny_attempt (wpAny_callSpecial?_slot (name := Str.ofString "__next__") ty F.slot_enumerate_next (wpAny_call_entry F.slot_enumerate_next ty F.entry_enumerate_next ?_ (F.args_enumerate_next_1 _))))
  show wpAny _ _ (field (.ref e) 2 >>= _) _ _ _
  refine wpAny_bind (wpAny_field he rfl (x := .ref it) rfl (wpAny_bind (wpAny_nextOf_tuple_end hh hit ht hx fun h' x eb ⟨o, ho, hc⟩ => ?_)))
  exact wpAny_bind (wpAny_isInstance (T := "StopIteration") (b := true) ⟨o, ho, hc⟩ isSubtype_stop (wpAny_pure (hQ _ eb)))
/-- a tuple's items, each in a new pair with its number -/
def IeT (K : PySem.W.Frag) (a : Addr) : It :=
  ⟨fun i H => ∃ (xs : List V) (x : V), SqT K H a xs ∧ xs[i]? = some x, fun i H v H' => ∃ T x, v = .ref T ∧ H T = none ∧ H' = upd H T (.tup [.int (i : Nat), x]) ∧ ∀ xs, SqT K H a xs → xs[i]? = some x, fun i H => ∃ xs : List V, SqT K H a xs ∧ xs.length ≤ i⟩
theorem turn_enT {P : Program} {w : World} {K : PySem.W.Frag} {elts : List Expr} {kk : Nat} {tpos : Pos} (a e it : Addr) :
    Turn P w K (.Tuple elts kk tpos) (IeT K a) [e, it] e (fun i h => (∃ old, IsEnum h e it ((i : Nat) : Int) old) ∧ h.IsTupleIter it a i ∧ e ≠ it ∧ a ≠ it ∧ a ≠ e) where
  mem := by simp
  obj := fun i h st b hb => by
    obtain ⟨⟨old, he⟩, ⟨o, ho, hc, hd⟩, _⟩ := st
    rcases (by simpa using hb : b = e ∨ b = it) with rfl | rfl
    · exact ⟨_, he, fun v q => nomatch q⟩
    · exact ⟨o, ho, fun v q => by rw [hd] at q; cases q⟩
  keep := fun i h h' st k => let ⟨⟨old, he⟩, hi, hne⟩ := st; ⟨⟨old, k e (by simp) _ he⟩, hi.at fun o q => k it (by simp) o q, hne⟩
  item := by
    intro X hP hw hK hc i pins s σ H E I hf st hg
    subst hP hw hK
    obtain ⟨⟨old, he⟩, hit, hne, ha1, ha2⟩ := st
    obtain ⟨xs, x, hq, hx⟩ := hg
    obtain ⟨its, rv, p, hz⟩ := I.tuple hq
    obtain ⟨u, hu, ru⟩ := rv.get hx
    have lt_e : e < s.heap.objs.size := Heap.lt_size he
    have lt_i : it < s.heap.objs.size := by obtain ⟨_, q, _⟩ := hit; exact Heap.lt_size q
    have hlt : i < its.toArray.size := by
      rw [List.size_toArray]
      exact (List.getElem?_eq_some_iff.mp hu).1
    refine wpAny_pyNext_enum_itemD (Draws.tuple (prog := X.prog) (w := X.w) (by first | exact I.ok.hd hc | (simp [I.ok.hd hc])) it a ha1 its.toArray) he ⟨hit, p⟩ hlt hne (by simp [hne, Ne.symm ha2]) fun x' h' tk px ho hit' hT hsz hk => ?_
    obtain rfl : x' = u := by
      have q : its.toArray[i]? = some x' := px
      rw [List.getElem?_toArray, hu] at q
      exact (Option.some.inj q).symm
    refine ⟨_, rfl, wpAny_letOwnedTupleGo_enum (s := { s with heap := h', toks := tk + 1 }) ho fun h'' he' sb => ?_⟩
    have at_T : h''.get? s.heap.objs.size = some { cls := .type "tuple", data := .seq #[.int i tk, x'] } := (sb.2 _ (Nat.ne_of_gt lt_e)).trans hT
    have new : ObjOk X.prog X.w (upd H s.heap.objs.size (.tup [.int (i : Nat), x])) h'' s.heap.objs.size (.tup [.int (i : Nat), x]) := ⟨by show 2 ≤ sizeLine; decide, [.int i tk, x'], .cons ⟨_, rfl⟩ (.cons ru .nil), ⟨_, at_T, rfl, _, rfl⟩⟩
    have I1 : Inv X pins σ (upd H s.heap.objs.size (.tup [.int (i : Nat), x])) { s with heap := h'', toks := tk + 1 } :=
      I.turnedNew (ch := [e, it]) (fun b ob hb q => (sb.2 b (fun z => hb (by simp [z]))).trans (hk b ob (fun z => hb (by simp [z])) (fun z => hb (by simp [z])) q)) hf (Nat.le_refl _) new
    refine ⟨.ref s.heap.objs.size, _, I1, rfl, ⟨_, x, rfl, I.hok.fresh (Nat.le_refl _), rfl, fun ys hy => by rw [I.tuple_inj hy hq]; exact hx⟩, ⟨⟨x', ?_⟩, hit'.1.at fun o q => (sb.2 it (Ne.symm hne)).trans q, hne, ha1, ha2⟩, fun b hb => ?_⟩
    · have e1 : ((i + 1 : Nat) : Int) = (i : Int) + 1 := by omega
      rw [e1]
      exact he'
    · have lt_b : b < s.heap.objs.size := by
        rcases (by simpa using hb : b = e ∨ b = it) with rfl | rfl
        · exact lt_e
        · exact lt_i
      rw [upd_ne (Nat.ne_of_lt lt_b)]
      exact (hf b hb).1
  done := by
    intro X hP hw hK hc i pins s σ H E I hf st hg
    subst hP hw hK
    obtain ⟨⟨old, he⟩, hit, hne, ha1, ha2⟩ := st
    obtain ⟨xs, hq, hx⟩ := hg
    obtain ⟨its, rv, p, hz⟩ := I.tuple hq
    obtain ⟨f0, f1, f2, f3, f4, f5⟩ := hf it (by simp)
    have hl := rv.length
    exact end_enT (I.ok.hd hc) he hit p (by simp; omega) fun h' eb => ⟨rfl, I.turned (t' := s.toks) (fun b o hb q => eb b o hb q) f0 f1 f3 f4 f5⟩
  self := fun A i s Q E st h => let ⟨⟨_, he⟩, _⟩ := st; wpAny_pyIter_enum he h
def iEnT (K : PySem.W.Frag) (ta : TA) : TI := fun σ H R => ta σ H fun vs H1 => ∃ a xs, vs = [.ref a] ∧ SqT K H1 a xs ∧ R (IeT K a) H1
theorem pi_enT {X : Cx} {e : Expr} {ta : TA} {p pos tpos : Pos} {elts : List Expr} {kk : Nat} (hg : Gl X "enumerate") (hm : X.mg "enumerate" = none) (ha : PA X [e] ta) (hs : starEach [e] X.env = [(false, eval e X.env)]) :
    PI X (.Tuple elts kk tpos) (.Call (.Name "enumerate" p) [e] [] pos) (iEnT X.K ta) := by
  refine ⟨fun pins s σ H R I h => Call_ (ld_blt I hg hm boot_enumerate (PyProof.Rows.callWith_type1 (thn (ha.run pos pins s σ H _ I h) fun us s1 ⟨vs, H1, I1, r1, a, xs, ex, hq, q⟩ => ?_) hs rfl))⟩
  subst ex
  cases r1 with
  | cons r rr =>
    cases rr
    cases r
    obtain ⟨its, rv, tp, hz⟩ := I1.tuple hq
    have lt_a : a < s1.heap.objs.size := by obtain ⟨_, q, _⟩ := tp; exact Heap.lt_size q
    refine call_enT tp fun h' he hit hk => wpAny_pyIter_enum he ?_
    have I2 : Inv X pins σ H1 { s1 with heap := h' } := I1.kept (t' := s1.toks) hk
    refine ⟨s1.heap.objs.size + 1, [s1.heap.objs.size + 1, s1.heap.objs.size], _, _, H1, rfl, I2, turn_enT a (s1.heap.objs.size + 1) s1.heap.objs.size, ⟨⟨.none, he⟩, hit, Nat.succ_ne_self _, Nat.ne_of_lt lt_a, Nat.ne_of_lt (Nat.lt_succ_of_lt lt_a)⟩, fun b hb => ?_, q⟩
    have le : s1.heap.objs.size ≤ b := by
      rcases (by simpa using hb : b = s1.heap.objs.size + 1 ∨ b = s1.heap.objs.size) with rfl | rfl
      · exact Nat.le_succ _
      · exact Nat.le_refl _
    exact I1.fpOk le (I1.hok.fresh le)
theorem jd_enT {K : PySem.W.Frag} {b : Bool} {U : Addr → Prop} {H : Hp} {a : Addr} {xs : List V} {ds : List D} (h : (¬ U a ∧ TupN H a xs) ∨ WrT K a xs) (r : Reps K U H xs ds) : JD K true (Kb b U H) (IeT K a) (enumI ds) := fun U' H' k => by
  have h' : SqT K H' a xs := kb_tup k h
  have r' := k.seq r
  refine ⟨⟨xs, h', ?_⟩, fun i d hd => ?_⟩
  · rw [r'.length]
    unfold enumI
    rw [List.length_map, List.length_zipIdx]
    exact Nat.le_refl _
  · unfold enumI at hd
    rw [List.getElem?_map, List.getElem?_zipIdx] at hd
    cases e : ds[i]? with
    | none => rw [e] at hd; cases hd
    | some dx =>
      rw [e] at hd
      obtain ⟨x, hx, rx⟩ := r'.get e
      refine ⟨⟨xs, x, h', hx⟩, fun v H'' ⟨T, x', e3, hT, e4, e5⟩ => ?_⟩
      have e5 := e5 xs h'
      rw [hx] at e5
      cases e5
      have hd' : PyData.tuple [.int ((0 + i : Nat) : Int), dx] = d := Option.some.inj hd
      rw [← hd', e3, e4, Nat.zero_add]
      exact rep_pair hT (.int _) rx
def enumD2 : List D → Out (List D)
  | [.list xs] => .ok (enumI xs)
  | [.tuple xs] => .ok (enumI xs)
  | _ => .stuck
section
variable {X : Cx} {H0 : Ent} {W : WX}
theorem di_enum2 {b : Bool} {e : Expr} {f : Rho → Out (List D)} {p pos tpos : Pos} {elts : List Expr} {kk : Nat} (hg : Gl X "enumerate") (hm : X.mg "enumerate" = none) (ha : DA X H0 W b [e] f)
    (hs : starEach [e] X.env = [(false, eval e X.env)]) : DI X H0 W b (.Tuple elts kk tpos) (.Call (.Name "enumerate" p) [e] [] pos) fun ρ => (f ρ).bind enumD2 :=
  PI.imp (PI.or (di_enum (b := b) (W := W) hg hm ha hs) (di_args (g := fun ds => match ds with
    | [.tuple xs] => .ok (enumI xs)
    | _ => .stuck) (ta := iEnT X.K) (pi_enT hg hm ha hs) (fun σ H R t h i => tDA.mono h i) (fun σ U H vs ds R hf r q => by
    split at q
    · obtain ⟨v, rfl, r1⟩ := repL_one r
      obtain ⟨a, xs, rfl, h1, h2⟩ := repM_tup r1
      have s1 : SqT X.K H a xs := h1.elim (fun q => .inl q.2.rd) fun q => q.sq H
      exact ⟨a, xs, rfl, s1, q _ H (Same.refl H) (jd_enT h1 h2)⟩
    · exact q.elim) fun σ H H1 R vs h => h)) fun σ H R ⟨ρ, U, P, q⟩ => by
    replace q : PostI X W (tpE (.Tuple elts kk tpos)) b σ H U R ((f ρ).bind enumD2) := q
    have go2 : ∀ o, f ρ = o → ∀ g : List D → Out (List D), PostI X W (tpE (.Tuple elts kk tpos)) b σ H U R (o.bind g) → PostI X W (tpE (.Tuple elts kk tpos)) b σ H U R ((f ρ).bind g) := fun o e g q => by rw [e]; exact q
    cases ef : f ρ with
    | exc c fs =>
      rw [ef] at q
      exact .inl ⟨ρ, U, P, go2 _ ef enumD q⟩
    | stuck =>
      rw [ef] at q
      exact q.elim
    | ok ds =>
      rw [ef] at q
      replace q : PostI X W (tpE (.Tuple elts kk tpos)) b σ H U R (enumD2 ds) := q
      unfold enumD2 at q
      split at q
      · exact .inl ⟨ρ, U, P, go2 _ ef enumD q⟩
      · exact .inr ⟨ρ, U, P, go2 _ ef _ q⟩
      · exact q.elim
end
end Mp
namespace Mp
open PySem PySem.Spec PyProof.Rows L2
/-! ### what is owned is lent to a call whose value holds nothing that can be written to -/
mutual
def pureD : D → Bool
  | .list _ => false
  | .dict _ => false
  | .tuple ds => pureDs ds
  | _ => true
def pureDs : List D → Bool
  | [] => true
  | d :: ds => pureD d && pureDs ds
end
theorem ud_tup {U' : Addr → Prop} {H : Hp} (ud : ∀ a, U' a → ∃ o, H a = some o ∧ MuO o) {a : Addr} {xs : List V} (h : TupN H a xs) : ¬ U' a := fun z => by
  obtain ⟨o, e, m⟩ := ud _ z
  obtain ⟨q2, e2, _⟩ := h
  rw [e2] at e
  cases e
  rcases m with ⟨_, m⟩ | ⟨_, m⟩ | ⟨_, _, _, m⟩ <;> cases m
section
variable {K : PySem.W.Frag} {U U' : Addr → Prop} {H : Hp}
mutual
theorem Rep.pure (ud : ∀ a, U' a → ∃ o, H a = some o ∧ MuO o) : ∀ {v : V} {d : D}, Rep K U H v d → pureD d = true → Rep K U' H v d
  | _, _, .non, _ => .non
  | _, _, .bl b, _ => .bl b
  | _, _, .int i, _ => .int i
  | _, _, .str x, _ => .str x
  | _, _, .tup h r, p => .tup (h.imp (fun q => And.intro (ud_tup ud q.2) q.2) id) (Reps.pure ud r (by rw [pureD] at p; exact p))
  | _, _, .lst h1 h2 r, p => by rw [pureD] at p; cases p
  | _, _, .dct h1 h2 r, p => by rw [pureD] at p; cases p
  | _, _, .ins h1 h2 h3 r, p => by rw [pureD] at p; cases p
theorem Reps.pure (ud : ∀ a, U' a → ∃ o, H a = some o ∧ MuO o) : ∀ {vs : List V} {ds : List D}, Reps K U H vs ds → pureDs ds = true → Reps K U' H vs ds
  | _, _, .nil, _ => .nil
  | _, _, .cons r t, p => by
    rw [pureDs, Bool.and_eq_true] at p
    exact .cons (Rep.pure ud r p.1) (Reps.pure ud t p.2)
end
end
def lendV : Out D → Out D
  | .ok d => if pureD d = true then .ok d else .stuck
  | .exc c fs => .exc c fs
  | .stuck => .stuck
section
variable {X : Cx} {H0 : Ent} {W : WX}
theorem DE.lend {e : Expr} {f : Rho → Out D} (h : DE X H0 W .v e f) (is : List Nat) : DE X H0 W .v e fun ρ => lendV (f (Mp.dem is ρ)) :=
  PE.imp h fun σ H Q ⟨ρ, U, P, q⟩ => by
    obtain ⟨U', k, P'⟩ := P.dem is
    refine ⟨_, U', P', ?_⟩
    replace q : PostM X W .v σ H U Q (lendV (f (Mp.dem is ρ))) := q
    revert q
    cases f (Mp.dem is ρ) with
    | ok d =>
      intro q
      replace q : PostM X W .v σ H U Q (if pureD d = true then .ok d else .stuck) := q
      by_cases hp : pureD d = true
      · rw [if_pos hp] at q
        intro v H1 s r
        exact q v H1 s (Rep.pure (P.same s).ud r hp)
      · rw [if_neg hp] at q
        exact q.elim
    | exc c fs => exact fun q => q
    | stuck => exact fun q => q.elim
def lendD (i : Nat) (is : List Nat) (ρ : Rho) (d : D) : SOut := if pureD d = true then setV i ρ d else setV i (Mp.dem is ρ) d
theorem ds_lend {i : Nat} {x : Str} {e : Expr} {f : Rho → Out D} {p pos : Pos} (is : List Nat) (hN : X.N.Nodup) (hi : X.N[i]? = some x) (hx : Loc X.env.scope x) (hf : X.fn x = true ∨ X.env.scope.names.lookup x = some .local) (h : DE X H0 W .v e f) (hs : swapsWith e (some (.Name x p)) pos.line X.env = pure false) :
    DS X H0 W (.Assign [.Name x p] e pos) fun ρ => (f (Mp.dem is ρ)).st ρ (lendD i is ρ) :=
  PS.imp (PS.or (ds_set hN hi hx hf (DE.lend h is) hs) (DS.dem (ds_set hN hi hx hf h hs) is)) fun Dn σ H ⟨ρ, U, P, q⟩ => by
    replace q : PostS X H0 W Dn H U ((f (Mp.dem is ρ)).st ρ (lendD i is ρ)) := q
    have go1 : ∀ o, f (Mp.dem is ρ) = o → PostS X H0 W Dn H U ((lendV o).st ρ (setV i ρ)) → PostS X H0 W Dn H U ((lendV (f (Mp.dem is ρ))).st ρ (setV i ρ)) := fun o e q => by rw [e]; exact q
    have go2 : ∀ o, f (Mp.dem is ρ) = o → PostS X H0 W Dn H U (o.st (Mp.dem is ρ) (setV i (Mp.dem is ρ))) → PostS X H0 W Dn H U ((f (Mp.dem is ρ)).st (Mp.dem is ρ) (setV i (Mp.dem is ρ))) := fun o e q => by rw [e]; exact q
    cases ef : f (Mp.dem is ρ) with
    | ok d =>
      rw [ef] at q
      replace q : PostS X H0 W Dn H U (if pureD d = true then setV i ρ d else setV i (Mp.dem is ρ) d) := q
      by_cases hp : pureD d = true
      · rw [if_pos hp] at q
        refine .inl ⟨ρ, U, P, go1 _ ef ?_⟩
        have e1 : lendV (.ok d) = .ok d := if_pos hp
        rw [e1]
        exact q
      · rw [if_neg hp] at q
        exact .inr ⟨ρ, U, P, go2 _ ef q⟩
    | exc c fs =>
      rw [ef] at q
      exact .inl ⟨ρ, U, P, go1 _ ef q⟩
    | stuck =>
      rw [ef] at q
      exact q.elim
theorem DT.lend {e : Expr} {f : Rho → Out Bool} (h : DT X H0 W e f) (is : List Nat) : DT X H0 W e fun ρ => f (Mp.dem is ρ) :=
  PT.imp h fun σ H Q ⟨ρ, U, P, q⟩ => by
    obtain ⟨U', k, P'⟩ := P.dem is
    exact ⟨_, U', P', q⟩
end
end Mp
namespace Mp
open PySem PySem.Spec PyProof.Rows L2
/-! ### the sum of two lists is a new list -/
def addLD : D → D → Out D
  | .list xs, .list ys => if xs.length + ys.length ≤ sizeLine then .ok (.list (xs ++ ys)) else .stuck
  | _, _ => .stuck
section
variable {X : Cx} {H0 : Ent} {W : WX} {a b : Expr} {fa fb : Rho → Out D} {pos : Pos}
theorem de_catF (ha : DE X H0 W .b a fa) (hb : DE X H0 W .b b fb) : DE X H0 W .f (.BinOp a .Add b pos) fun ρ => (fa ρ).bind fun x => (fb ρ).bind fun y => addLD x y := by
  refine de_op (m := .f) op_catL (fun σ U H v u x y Q hf r1 r2 q => ?_) ha hb
  cases x with
  | list xs => cases y with
    | list ys =>
      obtain ⟨p, vs, rfl, s1, t1⟩ := r1.lst
      obtain ⟨p2, ws, rfl, s2, t2⟩ := r2.lst
      simp only [addLD] at q
      split at q
      · rename_i hl
        exact ⟨p, p2, vs, ws, ⟨rfl, rfl⟩, ⟨s1, s2⟩, by rw [t1.length, t2.length]; exact hl, q.lst hf (t1.append t2)⟩
      · exact q.elim
    | _ => exact q.elim
  | _ => cases y <;> exact q.elim
def repLD : D → D → Out D
  | .list xs, .int k => if -1000000 ≤ k ∧ k ≤ 1000000 ∧ xs.length * k.toNat ≤ sizeLine then .ok (.list (List.replicate k.toNat xs).flatten) else .stuck
  | _, _ => .stuck
theorem de_repF (ha : DE X H0 W .b a fa) (hb : DE X H0 W .b b fb) : DE X H0 W .f (.BinOp a .Mult b pos) fun ρ => (fa ρ).bind fun x => (fb ρ).bind fun y => repLD x y := by
  refine de_op (m := .f) op_repL (fun σ U H v u x y Q hf r1 r2 q => ?_) ha hb
  cases x with
  | list xs => cases y with
    | int k =>
      obtain ⟨p, vs, rfl, s1, t1⟩ := r1.lst
      obtain rfl := r2.int
      simp only [repLD] at q
      split at q
      · rename_i hk
        exact ⟨p, k, vs, ⟨rfl, rfl⟩, s1, ⟨hk.1, hk.2.1⟩, by rw [t1.length]; exact hk.2.2, q.lst hf (Reps.rep t1 k.toNat)⟩
      · exact q.elim
    | _ => exact q.elim
  | _ => cases y <;> exact q.elim
def isLstD : D → Bool
  | .list _ => true
  | _ => false
theorem addLD_of {x y d : D} (h : addD x y = .ok d) (hd : isLstD d = true) : addLD x y = .ok d := by
  cases x with
  | list xs => cases y with
    | list ys => exact h
    | _ => exact nomatch h
  | int i => cases y with
    | int j =>
      cases h
      cases hd
    | _ => exact nomatch h
  | str i => cases y with
    | str j =>
      simp only [addD] at h
      split at h
      · cases h
        cases hd
      · cases h
    | _ => exact nomatch h
  | tuple i => cases y with
    | tuple j =>
      simp only [addD] at h
      split at h
      · cases h
        cases hd
      · cases h
    | _ => exact nomatch h
  | _ => cases y <;> exact nomatch h
theorem repLD_of {x y d : D} (h : mulD x y = .ok d) (hd : isLstD d = true) : repLD x y = .ok d := by
  cases x with
  | list xs => cases y with
    | int k => exact h
    | _ => exact nomatch h
  | int i => cases y with
    | int j =>
      simp only [mulD] at h
      split at h
      · cases h
        cases hd
      · cases h
    | _ => exact nomatch h
  | tuple i => cases y with
    | int j =>
      simp only [mulD] at h
      split at h
      · cases h
        cases hd
      · split at h
        · cases h
          cases hd
        · split at h
          · cases h
            cases hd
          · cases h
    | _ => exact nomatch h
  | _ => cases y <;> exact nomatch h
theorem bind2_of {u v : Out D} {d : D} {g g' : D → D → Out D} (hg : ∀ {x y d : D}, g x y = .ok d → isLstD d = true → g' x y = .ok d) (h : (u.bind fun x => v.bind fun y => g x y) = .ok d) (hd : isLstD d = true) : (u.bind fun x => v.bind fun y => g' x y) = .ok d := by
  cases u with
  | ok x => cases v with
    | ok y => exact hg h hd
    | exc c fs => exact nomatch h
    | stuck => exact nomatch h
  | exc c fs => exact nomatch h
  | stuck => exact nomatch h
/-- what a sum is set to: a list is owned -/
def sumD (i : Nat) (ρ : Rho) (d : D) : SOut := if isLstD d = true then setF i ρ d else setV i ρ d
theorem ds_new {i : Nat} {x : Str} {e : Expr} {u v : Rho → Out D} {g g' : D → D → Out D} {p pos2 : Pos} (hg : ∀ {x y d : D}, g x y = .ok d → isLstD d = true → g' x y = .ok d) (hN : X.N.Nodup) (hi : X.N[i]? = some x) (hx : Loc X.env.scope x) (hf : X.fn x = true ∨ X.env.scope.names.lookup x = some .local)
    (he : DE X H0 W .v e fun ρ => (u ρ).bind fun x => (v ρ).bind fun y => g x y) (hF : DE X H0 W .f e fun ρ => (u ρ).bind fun x => (v ρ).bind fun y => g' x y) (hs : swapsWith e (some (.Name x p)) pos2.line X.env = pure false) :
    DS X H0 W (.Assign [.Name x p] e pos2) fun ρ => ((u ρ).bind fun x => (v ρ).bind fun y => g x y).st ρ (sumD i ρ) :=
  PS.imp (PS.or (ds_set hN hi hx hf he hs) (ds_setF hN hi hx hf hF hs)) fun Dn σ H ⟨ρ, U, P, q⟩ => by
    have q : PostS X H0 W Dn H U (((u ρ).bind fun x => (v ρ).bind fun y => g x y).st ρ (sumD i ρ)) := q
    have go1 : ∀ o, ((u ρ).bind fun x => (v ρ).bind fun y => g x y) = o → PostS X H0 W Dn H U (o.st ρ (setV i ρ)) → PostS X H0 W Dn H U (((u ρ).bind fun x => (v ρ).bind fun y => g x y).st ρ (setV i ρ)) := fun o e q => by rw [e]; exact q
    have go2 : ∀ o, ((u ρ).bind fun x => (v ρ).bind fun y => g' x y) = o → PostS X H0 W Dn H U (o.st ρ (setF i ρ)) → PostS X H0 W Dn H U (((u ρ).bind fun x => (v ρ).bind fun y => g' x y).st ρ (setF i ρ)) := fun o e q => by rw [e]; exact q
    cases ef : (u ρ).bind fun x => (v ρ).bind fun y => g x y with
    | ok d =>
      rw [ef] at q
      replace q : PostS X H0 W Dn H U (if isLstD d = true then setF i ρ d else setV i ρ d) := q
      by_cases hd : isLstD d = true
      · rw [if_pos hd] at q
        exact .inr ⟨ρ, U, P, go2 _ (bind2_of hg ef hd) q⟩
      · rw [if_neg hd] at q
        exact .inl ⟨ρ, U, P, go1 _ ef q⟩
    | exc c fs =>
      rw [ef] at q
      exact .inl ⟨ρ, U, P, go1 _ ef q⟩
    | stuck =>
      rw [ef] at q
      exact q.elim
end
end Mp
namespace Mp
open PySem PySem.Spec PyProof.Rows L2
/-! ### t[lo:hi:k], t a tuple, k not 0 -/
def stepL {α : Type} (xs : List α) (lo hi : Option Int) (k : Int) : List α :=
  (List.range (Builtin.Slice.slicePlaces (Builtin.Slice.sliceAdjust lo hi k (xs.length : Int)).1 (Builtin.Slice.sliceAdjust lo hi k (xs.length : Int)).2 k)).filterMap fun (m : Nat) => xs[((Builtin.Slice.sliceAdjust lo hi k (xs.length : Int)).1 + (m : Int) * k).toNat]?
/-- the whole of it -/
def allL (n : Nat) (lo hi : Option Int) (k : Int) : Bool := (Builtin.Slice.sliceAdjust lo hi k (n : Int)).1 == 0 && k == 1 && Builtin.Slice.slicePlaces (Builtin.Slice.sliceAdjust lo hi k (n : Int)).1 (Builtin.Slice.sliceAdjust lo hi k (n : Int)).2 k == n
theorem stepL_all {α : Type} {xs : List α} {lo hi : Option Int} {k : Int} (h : allL xs.length lo hi k = true) : stepL xs lo hi k = xs := by
  unfold allL at h
  simp only [Bool.and_eq_true, beq_iff_eq] at h
  obtain ⟨⟨h1, h2⟩, h3⟩ := h
  unfold stepL
  rw [h3, h1, h2]
  have e : (fun (m : Nat) => xs[((0 : Int) + (m : Int) * 1).toNat]?) = fun m => xs[m]? := by
    funext m
    have : ((0 : Int) + (m : Int) * 1).toNat = m := by omega
    rw [this]
  rw [e]
  clear e h1 h2 h3
  induction xs with
  | nil => rfl
  | cons x xs ih =>
    rw [List.length_cons, List.range_succ_eq_map, List.filterMap_cons, List.filterMap_map]
    simp only [List.getElem?_cons_zero]
    congr 1
def sliceK (x : D) (lo hi k : Option Int) : Out D := match x, k with
  | .tuple xs, some k => if k ≠ 0 ∧ (stepL xs lo hi k).length ≤ sizeLine then .ok (.tuple (stepL xs lo hi k)) else .stuck
  | _, _ => .stuck
section
variable {prog : Program} {w : World} {A : Around} {E : Value → Shared → Prop} {s : Shared}
theorem sliceApplied_k {sl : Addr} {vl vu vk : Value} {lo hi : Option Int} {k : Int} {n : Nat} {Q : Int × Int × Nat → Shared → Prop} (hs : s.heap.IsSliceOf sl vl vu vk) (pl : IsPart vl lo) (pu : IsPart vu hi) (pk : IsPart vk (some k)) (hk : k ≠ 0)
    (h : Q ((Builtin.Slice.sliceAdjust lo hi k (n : Int)).1, k, Builtin.Slice.slicePlaces (Builtin.Slice.sliceAdjust lo hi k (n : Int)).1 (Builtin.Slice.sliceAdjust lo hi k (n : Int)).2 k) s) : wpAny (model prog w) A (Builtin.Slice.sliceApplied (.ref sl) (pure (n : Int))) Q E s := by
  obtain ⟨os, hos, hcs, hds⟩ := id hs
  unfold Builtin.Slice.sliceApplied Builtin.Slice.sliceFields
  refine wpAny_bind (wpAny_bind (wpAny_field hos hds (x := vl) rfl (wpAny_bind (wpAny_field hos hds (x := vu) rfl (wpAny_bind (wpAny_field hos hds (x := vk) rfl (wpAny_pure ?_)))))))
  refine wpAny_bind (HT.slicePart_ pk ?_)
  show wpAny _ _ (if (k == 0) = true then _ else _) _ _ s
  rw [if_neg (by simpa using hk)]
  refine wpAny_bind (HT.slicePart_ pl (wpAny_bind (HT.slicePart_ pu (wpAny_bind (wpAny_pure ?_)))))
  show wpAny _ _ (pure ((Builtin.Slice.sliceAdjust lo hi k (n : Int)).1, k, Builtin.Slice.slicePlaces (Builtin.Slice.sliceAdjust lo hi k (n : Int)).1 (Builtin.Slice.sliceAdjust lo hi k (n : Int)).2 k)) _ _ s
  exact wpAny_pure h
theorem getItem_tuple_step {t sl : Addr} {items : Array Value} {vl vu vk : Value} {lo hi : Option Int} {k : Int} {Q : Value → Shared → Prop} (ht : IsTup s.heap t items) (hs : s.heap.IsSliceOf sl vl vu vk) (pl : IsPart vl lo) (pu : IsPart vu hi) (pk : IsPart vk (some k))
    (h0 : k ≠ 0) (hsz : (stepL items.toList lo hi k).length ≤ sizeLine) (hall : allL items.size lo hi k = true → Q (.ref t) s)
    (h : allL items.size lo hi k = false → Q (.ref s.heap.objs.size) { s with heap := s.heap.push { cls := .type "tuple", data := .seq (stepL items.toList lo hi k).toArray } }) : wpAny (model prog w) A (getItem (.ref t) (.ref sl)) Q E s := by
  have htake : sizeOk (.seq (stepL items.toList lo hi k).toArray) := by
    show (stepL items.toList lo hi k).toArray.size ≤ sizeLine
    rw [List.size_toArray]
    exact hsz
  obtain ⟨os, hos, hcs, hds⟩ := id hs
  have hTs : s.TypeIs (.ref sl) "slice" := ⟨os, hos, hcs⟩
  unfold getItem
  try with_reducible refine wpAny_holding ?_
  first | refine wpAny_bind (wpAny_pure ?_) | skip
  refine wpAny_bind (wpAny_sequenceKey ht.typeIs (by decide) ?_)
  refine wpAny_bind (wpAny_callSpecial?_slot (name := Str.ofString "__getitem__") ht.typeIs PyProof.Rows.slot_tuple_getitem
    (wpAny_call_entry PyProof.Rows.slot_tuple_getitem ht.typeIs PyProof.Rows.entry_tuple_getitem ?_ (PyProof.Rows.args_tuple_getitem _ _)))
  show wpAny _ _ (Builtin.Tuple.tupleItemsOf (.ref t) >>= _) _ _ s
  refine wpAny_bind (PyProof.Rows.tupleItemsOf_ ht ?_)
  refine wpAny_bind (wpAny_typeOf hTs ?_)
  rw [if_pos (by decide)]
  refine wpAny_bind (sliceApplied_k hs pl pu pk h0 ?_)
  have e : ((List.range (Builtin.Slice.slicePlaces (Builtin.Slice.sliceAdjust lo hi k (items.size : Int)).1 (Builtin.Slice.sliceAdjust lo hi k (items.size : Int)).2 k)).filterMap fun (m : Nat) => items[((Builtin.Slice.sliceAdjust lo hi k (items.size : Int)).1 + (m : Int) * k).toNat]?).toArray = (stepL items.toList lo hi k).toArray := by
    unfold stepL
    rw [Array.length_toList]
    simp only [Array.getElem?_toList]
  show wpAny _ _ (if allL items.size lo hi k = true then _ else _) _ _ s
  by_cases hw : allL items.size lo hi k = true
  · rw [if_pos hw]
    refine wpAny_bind ?_
    show wpAny _ _ (typeOf (.ref t) >>= fun T => pure (T == .type "tuple")) _ _ s
    refine wpAny_bind (wpAny_typeOf ht.typeIs (wpAny_pure ?_))
    first
      | rw [if_pos (by decide)]
      | simp only [beq_self_eq_true, if_true]
    first
      | exact wpAny_bind (wpAny_rule (wpAny_pure ⟨_, rfl, wpAny_pure (hall hw)⟩))
      | exact wpAny_bind (wpAny_rule (wpAny_bind (wpAny_pure (wpAny_pure ⟨_, rfl, wpAny_pure (hall hw)⟩))))
  replace h := h (by simpa using hw)
  rw [if_neg hw, e]
  first
    | exact wpAny_bind (m := Builtin.Tuple.tupleExact _) (wpAny_newObj_type (wpAny_pure ⟨_, rfl, wpAny_pure h⟩) htake)
    | exact wpAny_bind (m := Builtin.Tuple.tupleExact _) (wpAny_newObj_type (wpAny_bind (wpAny_pure (wpAny_pure ⟨_, rfl, wpAny_pure h⟩))) htake)
    | exact wpAny_bind (wpAny_bind (m := Builtin.Tuple.tupleExact _) (wpAny_newObj_type (wpAny_pure (wpAny_pure ⟨_, rfl, wpAny_pure h⟩)) htake))
    | exact wpAny_bind (wpAny_bind (m := Builtin.Tuple.tupleExact _) (wpAny_newObj_type (wpAny_pure ⟨_, rfl, wpAny_pure h⟩) htake))
end
section
variable {X : Cx} {e st : Expr} {te : TE} {lo hi : Option Expr} {tl th ts : TO} {pos p2 : Pos}
def tSlK (K : PySem.W.Frag) (te : TE) (tl th ts : TO) : TE := fun σ H Q => te σ H fun x H1 => tl σ H1 fun l H2 => th σ H2 fun u H3 => ts σ H3 fun k H4 => ∃ (i : Int) (a : Addr) (xs : List V), k = some i ∧ i ≠ 0 ∧ x = .ref a ∧ SqT K H4 a xs ∧ (stepL xs l u i).length ≤ sizeLine ∧ (allL xs.length l u i = true → Q (.ref a) H4) ∧ (allL xs.length l u i = false → Fz H4 Q (stepL xs l u i))
theorem vals_get : ∀ {xs : List V} {us : List Value}, Vals xs us → ∀ (i : Nat), (xs[i]? = none ∧ us[i]? = none) ∨ ∃ x u, xs[i]? = some x ∧ us[i]? = some u ∧ RelV x u
  | _, _, .nil, i => .inl ⟨rfl, rfl⟩
  | _, _, .cons r t, 0 => .inr ⟨_, _, rfl, rfl, r⟩
  | _, _, .cons r t, i + 1 => by
    rcases vals_get t i with ⟨a, b⟩ | ⟨x, u, a, b, c⟩
    · exact .inl ⟨by simpa using a, by simpa using b⟩
    · exact .inr ⟨x, u, by simpa using a, by simpa using b, c⟩
theorem vals_pick {xs : List V} {us : List Value} (r : Vals xs us) (f : Nat → Nat) : ∀ (l : List Nat), Vals (l.filterMap fun m => xs[f m]?) (l.filterMap fun m => us[f m]?)
  | [] => .nil
  | m :: l => by
    rcases vals_get r (f m) with ⟨a, b⟩ | ⟨x, u, a, b, c⟩
    · rw [List.filterMap_cons_none (f := fun m => xs[f m]?) a, List.filterMap_cons_none (f := fun m => us[f m]?) b]
      exact vals_pick r f l
    · rw [List.filterMap_cons_some (f := fun m => xs[f m]?) a, List.filterMap_cons_some (f := fun m => us[f m]?) b]
      exact .cons c (vals_pick r f l)
theorem vals_step {xs : List V} {us : List Value} (r : Vals xs us) (lo hi : Option Int) (k : Int) : Vals (stepL xs lo hi k) (stepL us lo hi k) := by
  unfold stepL
  rw [r.length]
  exact vals_pick r (fun m => ((Builtin.Slice.sliceAdjust lo hi k (us.length : Int)).1 + (m : Int) * k).toNat) _
theorem pe_sliceK (he : PE X e te) (hl : PO X lo tl) (hu : PO X hi th) (hs : PO X (some st) ts) (hb : ∀ v vs, subscriptTail e (.Slice lo hi (some st) p2) v vs = subscriptTail e (.Slice lo hi (some st) p2) v vs := by intros; rfl) : PE X (.Subscript e (.Slice lo hi (some st) p2) pos) (tSlK X.K te tl th ts) := by
  refine ⟨fun pins s σ H Q I h => ?_⟩
  refine Subscript_ (thn (he.run pins s σ H _ I h) fun v s1 ⟨x, H1, I1, r1, q1⟩ => ?_)
  refine wpAny_Slice (thn (hl.run pins s1 σ H1 _ I1 q1) fun vl s2 ⟨l, H2, I2, pl, q2⟩ => thn (hu.run pins s2 σ H2 _ I2 q2) fun vu s3 ⟨u, H3, I3, pu, q3⟩ => thn (hs.run pins s3 σ H3 _ I3 q3) fun vk s4 ⟨k, H4, I4, pk, q4⟩ => ?_)
  obtain ⟨i, a, xs, rfl, h0, rfl, hx, hz, qa, q⟩ := q4
  cases r1
  have I5 : Inv X pins σ H4 { s4 with heap := s4.heap.push { cls := .type "slice", data := .fields #[vl, vu, vk] } } := I4.kept (t' := s4.toks) fun b ob q => Heap.get?_push_of_some _ q
  obtain ⟨its, r, ht, _⟩ := I5.tuple hx
  show wpAny (model X.prog X.w) X.A (subscriptTail e (.Slice lo hi (some st) p2) (.ref a) (.ref s4.heap.objs.size)) (EP X pins σ Q) X.xe { s4 with heap := s4.heap.push { cls := .type "slice", data := .fields #[vl, vu, vk] } }
  refine tail_any (ops := [.ref a, .ref s4.heap.objs.size]) ht.typeIs (PyProof.Rows.slot_tuple_getitem.lookup) ?_ (by with_unfolding_all rfl)
  have rs := vals_step r l u i
  have el : its.toArray.size = xs.length := (List.size_toArray (as := its)).trans r.length.symm
  refine getItem_tuple_step ht (Heap.IsSliceOf.new _ vl vu vk) pl pu pk h0 (by rw [← rs.length]; exact hz) (fun hw => ?_) fun hw => ?_
  · rw [el] at hw
    exact ⟨.ref a, H4, I5, rfl, qa hw⟩
  · rw [el] at hw
    exact fz_ep I5 rs hz (q hw)
end
section
variable {X : Cx} {H0 : Ent} {W : WX}
theorem reps_get {K : PySem.W.Frag} {U : Addr → Prop} {H : Hp} : ∀ {vs : List V} {ds : List D}, Reps K U H vs ds → ∀ (i : Nat), (vs[i]? = none ∧ ds[i]? = none) ∨ ∃ x u, vs[i]? = some x ∧ ds[i]? = some u ∧ Rep K U H x u
  | _, _, .nil, i => .inl ⟨rfl, rfl⟩
  | _, _, .cons r t, 0 => .inr ⟨_, _, rfl, rfl, r⟩
  | _, _, .cons r t, i + 1 => by
    rcases reps_get t i with ⟨a, b⟩ | ⟨x, u, a, b, c⟩
    · exact .inl ⟨by simpa using a, by simpa using b⟩
    · exact .inr ⟨x, u, by simpa using a, by simpa using b, c⟩
theorem paired_pick {K : PySem.W.Frag} {U : Addr → Prop} {H : Hp} {vs : List V} {ds : List D} (r : Reps K U H vs ds) (f : Nat → Nat) : ∀ (l : List Nat), Reps K U H (l.filterMap fun m => vs[f m]?) (l.filterMap fun m => ds[f m]?)
  | [] => .nil
  | m :: l => by
    rcases reps_get r (f m) with ⟨a, b⟩ | ⟨x, u, a, b, c⟩
    · rw [List.filterMap_cons_none (f := fun m => vs[f m]?) a, List.filterMap_cons_none (f := fun m => ds[f m]?) b]
      exact paired_pick r f l
    · rw [List.filterMap_cons_some (f := fun m => vs[f m]?) a, List.filterMap_cons_some (f := fun m => ds[f m]?) b]
      exact .cons c (paired_pick r f l)
theorem Reps.step {K : PySem.W.Frag} {U : Addr → Prop} {H : Hp} {vs : List V} {ds : List D} (r : Reps K U H vs ds) (lo hi : Option Int) (k : Int) : Reps K U H (stepL vs lo hi k) (stepL ds lo hi k) := by
  unfold stepL
  rw [r.length]
  exact paired_pick r (fun m => ((Builtin.Slice.sliceAdjust lo hi k (ds.length : Int)).1 + (m : Int) * k).toNat) _
theorem de_sliceK {a st : Expr} {lo hi : Option Expr} {p2 pos : Pos} {fa : Rho → Out D} {fl fh fs : Rho → Out (Option Int)} (ha : DE X H0 W .b a fa) (hl : DO X H0 W lo fl) (hh : DO X H0 W hi fh) (hs : DO X H0 W (some st) fs) :
    DE X H0 W .v (.Subscript a (.Slice lo hi (some st) p2) pos) fun ρ => (fa ρ).bind fun x => (fl ρ).bind fun l => (fh ρ).bind fun h => (fs ρ).bind fun k => sliceK x l h k :=
  PE.imp (pe_sliceK ha hl hh hs) fun σ H Q h => (tD.bind (ma := .b) (k := fun x ρ => (fl ρ).bind fun l => (fh ρ).bind fun h => (fs ρ).bind fun k => sliceK x l h k) h).mono fun v H1 ⟨ρ, U, d, s1, P1, r1, q1⟩ => by
    have h2 := tDO.bind (k := fun l ρ => (fh ρ).bind fun h => (fs ρ).bind fun k => sliceK d l h k) P1 q1
    obtain ⟨ρ', U', P', q'⟩ := h2
    refine ⟨ρ', U', P', ?_⟩
    revert q'
    cases fl ρ' with
    | exc c fs => exact fun q => q
    | stuck => exact fun q => q
    | ok l =>
      intro q' H2 s2
      obtain ⟨s2', P2, q2⟩ := q' H2 s2
      have h3 := tDO.bind (k := fun h ρ => (fs ρ).bind fun k => sliceK d l h k) P2 q2
      obtain ⟨ρ3, U3, P3, q3⟩ := h3
      refine ⟨ρ3, U3, P3, ?_⟩
      revert q3
      cases fh ρ3 with
      | exc c fs => exact fun q => q
      | stuck => exact fun q => q
      | ok u =>
        intro q3 H3 s3
        obtain ⟨s3', P4, q4⟩ := q3 H3 s3
        have h4 := tDO.bind (k := fun k _ => sliceK d l u k) P4 q4
        obtain ⟨ρ5, U5, P5, q5⟩ := h4
        refine ⟨ρ5, U5, P5, ?_⟩
        revert q5
        cases fs ρ5 with
        | exc c fs => exact fun q => q
        | stuck => exact fun q => q
        | ok k =>
          intro q5 H5 s5
          obtain ⟨s5', P6, q6⟩ := q5 H5 s5
          have r4 : BRep X.K U H5 v d := by
            have s15 := (s2'.trans s3').trans s5'
            rcases r1 with r1 | ⟨a, e, hu, o⟩
            · exact .inl (r1.mono (Kp.same s15))
            · exact .inr ⟨a, e, hu, o.mono (Kp.same s15) fun _ z => s15 _ _ z⟩
          cases d with
          | tuple xs =>
            cases k with
            | none => exact q6.elim
            | some k =>
              obtain ⟨a, vs, rfl, h1, t1⟩ := r4.tup
              replace q6 : PostM X W .v σ H5 U Q (if k ≠ 0 ∧ (stepL xs l u k).length ≤ sizeLine then .ok (.tuple (stepL xs l u k)) else .stuck) := q6
              split at q6
              · rename_i hk
                have rs := t1.step l u k
                refine ⟨k, a, vs, rfl, hk.1, rfl, h1, by rw [rs.length]; exact hk.2, fun hw => ?_, fun _ => q6.tup (fun p hp => P6.fresh hp) rs⟩
                rw [t1.length] at hw
                rw [stepL_all hw] at q6
                rcases r4 with r4 | ⟨_, _, _, z⟩
                · exact q6.val r4
                · exact z.elim
              · exact q6.elim
          | _ => cases k <;> exact q6.elim
/-! ### d.get(k) -/
theorem de_get1 {o e : Expr} {apos cpos : Pos} {fo fe : Rho → Out D} (hu : X.A.units + 64 < cLine) (ho : DE X H0 W .b o fo) (he : DE X H0 W .b e fe) (m : M1 X o "get" apos e cpos) :
    DE X H0 W .v (.Call (.Attribute o "get" apos) [e] [] cpos) fun ρ => (fo ρ).bind fun x => match x with
      | .dict es => if insB es = true then .stuck else (fe ρ).bind fun y => (Out.ok .none).bind fun z => getD2 (.dict es) y z
      | _ => .stuck :=
  PE.imp (pe_dget1 (by omega) ho he m) fun σ H Q ⟨ρ, U, P, q⟩ => ⟨ρ, U, P, PostM.first (ma := .b) P q fun d v H1 s1 P1 r1 q1 => by
    cases d with
    | dict es =>
      have r1' : BRep X.K U H1 v (.dict es) := r1
      replace q1 : PostM X W .v σ H1 U Q (if insB es = true then .stuck else (fe ρ).bind fun y => getD2 (.dict es) y .none) := q1
      split at q1
      · exact q1.elim
      rename_i hins
      have hins : insB es = false := by simpa using hins
      obtain ⟨a, kvs, rfl, h1, t1⟩ := r1'.dct hins
      refine ⟨a, rfl, .inl ⟨kvs, h1⟩, ρ, U, P1, PostM.first (ma := .b) P1 (show PostM X W .v σ H1 U Q ((fe ρ).bind fun y => getD2 (.dict es) y .none) from q1) fun dk u H2 s2 P2 r2 q2 => ?_⟩
      replace q2 : PostM X W .v σ H2 U Q (match keyOf dk with
        | some k => .ok ((lookE es k).getD .none)
        | none => .stuck) := q2
      split at q2
      · rename_i key hk
        have r1'' : BRep X.K U H2 (.ref a) (.dict es) := BRep.same s2 r1'
        have r2' : BRep X.K U H2 u dk := r2
        obtain ⟨a', kvs', e1, h1', e2, hl⟩ := dget_is r1'' hins hk r2'
        cases e1
        rcases hl with ⟨l1, l2⟩ | ⟨x, dx, l1, l2, rx⟩
        · refine ⟨none, .inl ⟨kvs', key, h1', e2, l2.symm⟩, ?_⟩
          rw [l1] at q2
          exact q2.val .non
        · refine ⟨some x, .inl ⟨kvs', key, h1', e2, l2.symm⟩, ?_⟩
          rw [l1] at q2
          exact q2.val rx
      · exact q2.elim
    | _ => exact q1.elim⟩
/-! ### x *= e, ints -/
def ipM : TIp := fun x y H Q => ∃ i j, x = .int i ∧ y = .int j ∧ (smallI i || smallI j) = true ∧ Q (.int (i * j)) H
theorem smallI_ok {i : Int} (h : smallI i = true) : -(2 ^ 64) < i ∧ i < 2 ^ 64 := by
  simp only [smallI, Bool.and_eq_true, decide_eq_true_eq] at h
  exact h
theorem ip_mul : PIp X .Mult ipM := by
  intro pins s σ H x y v u Q I r1 r2 h
  obtain ⟨i, j, e1, e2, hs, q⟩ := h
  subst e1; subst e2
  obtain ⟨t, rfl⟩ := r1
  obtain ⟨t', rfl⟩ := r2
  have hc : CMul i j := by
    rcases Bool.or_eq_true_iff.mp hs with h | h
    · exact .inl (smallI_ok h)
    · exact .inr (smallI_ok h)
  exact imul_int ⟨.int _, H, I.tok _, ⟨_, rfl⟩, q⟩ hc.ok
theorem ds_augM {i : Nat} {x : Str} {e : Expr} {fe : Rho → Out D} {p pos : Pos} (hN : X.N.Nodup) (hi : X.N[i]? = some x) (hx : Loc X.env.scope x) (hf : X.fn x = true ∨ X.env.scope.names.lookup x = some .local) (he : DE X H0 W .v e fe) :
    DS X H0 W (.AugAssign (.Name x p) .Mult e pos) fun ρ => match getV ρ i with
      | .ok d => (fe ρ).st ρ fun y => (augD .Mult d y).st ρ (setV i ρ)
      | _ => .stuck :=
  PS.imp (ps_aug hN hi hx he ip_mul hf) fun Dn σ H ⟨ρ, U, P, q⟩ => by
    replace q : PostS X H0 W Dn H U (match getV ρ i with
      | .ok d => (fe ρ).st ρ fun y => (augD .Mult d y).st ρ (setV i ρ)
      | _ => .stuck) := q
    have z := P.sl i
    unfold getV at q
    cases hi2 : ρ[i]? with
    | none => rw [hi2] at q; exact q.elim
    | some o =>
    rw [hi2] at q z
    cases o with
    | none => exact q.elim
    | some bd =>
    obtain ⟨b, d⟩ := bd
    cases b with
    | true => exact q.elim
    | false =>
    obtain ⟨v, e1, rv⟩ := z
    replace q : PostS X H0 W Dn H U ((fe ρ).st ρ fun y => (augD .Mult d y).st ρ (setV i ρ)) := q
    refine ⟨v, e1, ρ, U, P, PostS.expr (m := .v) P q fun dy y H1 _ s1 P1 ry q1 => ?_⟩
    cases d with
    | int a => cases dy with
      | int c =>
        have ry : Rep X.K U H1 y (.int c) := ry
        cases rv
        cases ry
        replace q1 : PostS X H0 W Dn H1 U ((if (smallI a || smallI c) = true then Out.ok (PyData.int (a * c)) else .stuck).st ρ (setV i ρ)) := q1
        split at q1
        · rename_i hs
          exact ⟨a, c, rfl, rfl, hs, q1 _ H1 U Kp.rfl (P1.set i (.int _))⟩
        · exact q1.elim
      | _ => exact q1.elim
    | _ => cases dy <;> exact q1.elim
end
end Mp
namespace Mp
open PySem PySem.Spec PyProof.Rows L2
/-! ### dict(enumerate(t)), t a tuple -/
section
variable {prog : Program} {w : World} {A : Around} {E : Value → Shared → Prop} {s : Shared}
/-- the next pair, the last one still held -/
theorem next_held_t {e it t T : Addr} {i : Nat} {items : Array Value} {x old : Value} {f : Bool} {oT : Obj} {Q : Option Value → Shared → Prop}
    (he : IsEnumHeld s.heap e it i old T f) (hT : s.heap.get? T = some oT) (hTe : T ≠ e) (hTi : T ≠ it) (hit : s.heap.IsTupleIter it t i) (ht : s.heap.IsTuple t items) (hx : items[i]? = some x) (hne : e ≠ it)
    (hQ : ∀ h', IsEnumHeld h' e it ((i : Int) + 1) old T true → h'.IsTupleIter it t (i + 1) → h'.get? s.heap.objs.size = some { cls := .type "tuple", data := .seq #[.int i s.toks, x] } →
      (∀ b o, b ≠ e → b ≠ it → s.heap.get? b = some o → h'.get? b = some o) → Q (some (.ref s.heap.objs.size)) { s with heap := h', toks := s.toks + 1 }) :
    wpAny (model prog w) A (pyNext (.ref e)) Q E s := by
  have ty : s.TypeIs (.ref e) "enumerate" := ⟨_, he, rfl⟩
  obtain ⟨hp, g, d, tk, os⟩ := s
  unfold pyNext
  refine wpAny_bind (wpAny_attempt (wpAny_callSpecial?_slot (name := Str.ofString "__next__") ty F.slot_enumerate_next (wpAny_call_entry F.slot_enumerate_next ty F.entry_enumerate_next ?_ (F.args_enumerate_next_1 _))))
  show wpAny _ _ (field (.ref e) 2 >>= _) _ _ _
  refine wpAny_bind (wpAny_field he rfl (x := .ref it) rfl (wpAny_bind (wpAny_nextOf_tuple_item hit ht hx fun h1 i1 b1 => ?_)))
  replace b1 : Heap.SameBut it hp h1 := b1
  have e1 : IsEnumHeld h1 e it i old T f := (b1.2 e hne).trans he
  show wpAny _ _ (field (.ref e) 3 >>= _) _ _ ⟨h1, g, d, tk, os⟩
  refine wpAny_bind (wpAny_field e1 rfl (x := rawInt i) rfl ?_)
  show wpAny _ _ (field (.ref e) 4 >>= _) _ _ ⟨h1, g, d, tk, os⟩
  refine wpAny_bind (wpAny_field e1 rfl (x := .none) rfl ?_)
  show wpAny _ _ (mkInt i >>= _) _ _ ⟨h1, g, d, tk, os⟩
  refine wpAny_bind (wpAny_mkInt ?_)
  show wpAny _ _ (setField (.ref e) 3 (rawInt ((i : Int) + 1)) >>= _) _ _ ⟨h1, g, d, tk + 1, os⟩
  refine wpAny_bind (wpAny_setField_rec e1 (by simp) fun h2 e2 b2 => ?_)
  replace b2 : Heap.SameBut e h1 h2 := b2
  replace e2 : IsEnumHeld h2 e it ((i : Int) + 1) old T f := e2
  show wpAny _ _ (setField (.ref e) 4 .none >>= _) _ _ ⟨h2, g, d, tk + 1, os⟩
  refine wpAny_bind (wpAny_setField_rec e2 (by simp) fun h3 e3 b3 => ?_)
  replace b3 : Heap.SameBut e h2 h3 := b3
  replace e3 : IsEnumHeld h3 e it ((i : Int) + 1) old T f := e3
  show wpAny _ _ (newTuple [.int i tk, x] >>= _) _ _ ⟨h3, g, d, tk + 1, os⟩
  refine wpAny_bind (wpAny_newTuple ?_)
  have sz : h3.objs.size = hp.objs.size := by rw [b3.1, b2.1, b1.1]
  have e4 : IsEnumHeld (h3.push { cls := .type "tuple", data := .seq #[.int i tk, x] }) e it ((i : Int) + 1) old T f := Heap.get?_push_of_some _ e3
  have k4 : ∀ b o, b ≠ e → b ≠ it → hp.get? b = some o → (h3.push { cls := .type "tuple", data := .seq #[.int i tk, x] }).get? b = some o := fun b o n1 n2 q =>
    Heap.get?_push_of_some _ (b3.extBut b o n1 (b2.extBut b o n1 (b1.extBut b o n2 q)))
  have t4 : (h3.push { cls := .type "tuple", data := .seq #[.int i tk, x] }).get? hp.objs.size = some { cls := .type "tuple", data := .seq #[.int i tk, x] } := by
    rw [← sz]
    exact Heap.get?_push_size _ rfl
  have i4 : (h3.push { cls := .type "tuple", data := .seq #[.int i tk, x] }).IsTupleIter it t (i + 1) :=
    (i1.extBut b2.extBut (Ne.symm hne)).extBut b3.extBut (Ne.symm hne) |>.at fun o q => Heap.get?_push_of_some _ q
  have lt : e < hp.objs.size := Heap.lt_size he
  generalize h3.push { cls := .type "tuple", data := .seq #[.int i tk, x] } = h4 at e4 k4 t4 i4 ⊢
  show wpAny _ _ (Builtin.SmallTypes.ownedTupleIsFree (.ref e) >>= _) _ _ ⟨h4, g, d, tk + 1, os⟩
  rw [sz]
  refine wpAny_bind (wpAny_tupleHeld_enum (s := ⟨h4, g, d, tk + 1, os⟩) e4 (k4 T oT hTe hTi hT) fun h5 e5 b5 => ?_)
  replace b5 : Heap.SameBut e h4 h5 := b5
  simp only [Bool.false_eq_true, if_false]
  exact wpAny_pure ⟨_, rfl, wpAny_pure (hQ h5 e5 (i4.extBut b5.extBut (Ne.symm hne)) (b5.extBut _ _ (Nat.ne_of_gt lt) t4) fun b o n1 n2 q => b5.extBut b o n1 (k4 b o n1 n2 q))⟩
theorem end_held_t {e it t T : Addr} {i : Nat} {items : Array Value} {old : Value} {f : Bool} {Q : Option Value → Shared → Prop} (hh : A.handled = none)
    (he : IsEnumHeld s.heap e it i old T f) (hit : s.heap.IsTupleIter it t i) (ht : s.heap.IsTuple t items) (hx : items[i]? = none) (hQ : ∀ h', Heap.ExtBut it s.heap h' → Q none { s with heap := h' }) : wpAny (model prog w) A (pyNext (.ref e)) Q E s := by
  have ty : s.TypeIs (.ref e) "enumerate" := ⟨_, he, rfl⟩
  unfold pyNext
  refine wpAny_bind (wpAny_attempt (wpAny_callSpecial?_slot (name := Str.ofString "__next__") ty F.slot_enumerate_next (wpAny_call_entry F.slot_enumerate_next ty F.entry_enumerate_next ?_ (F.args_enumerate_next_1 _))))
  show wpAny _ _ (field (.ref e) 2 >>= _) _ _ _
  refine wpAny_bind (wpAny_field he rfl (x := .ref it) rfl (wpAny_bind (wpAny_nextOf_tuple_end hh hit ht hx fun h' x eb ⟨o, ho, hc⟩ => ?_)))
  exact wpAny_bind (wpAny_isInstance (T := "StopIteration") (b := true) ⟨o, ho, hc⟩ isSubtype_stop (wpAny_pure (hQ _ eb)))
theorem pairs_enT (e it t : Addr) (hei : e ≠ it) (hte : t ≠ e) (hti : t ≠ it) (items : Array Value) :
    PairArg prog w "enumerate" e [e, it, t] [e, it] items.size (fun i k v => (∃ u, k = .int i u) ∧ items[i]? = some v) (fun h => (∃ old, IsEnum h e it 0 old) ∧ h.IsTupleIter it t 0 ∧ h.IsTuple t items) where
  type := fun s ⟨⟨_, he⟩, _⟩ => ⟨_, he, rfl⟩
  notDict := by decide
  keep := fun h h' ⟨⟨old, he⟩, hit, ht⟩ hk => ⟨⟨old, hk _ _ he⟩, hit.at fun o x => hk _ o x, ht.at fun o x => hk _ o x⟩
  there := fun h ⟨⟨old, he⟩, ⟨o1, h1, _⟩, ⟨o2, h2, _⟩⟩ b hb => by
    rcases (by simpa using hb : b = e ∨ b = it ∨ b = t) with rfl | rfl | rfl
    · exact ⟨_, he⟩
    · exact ⟨_, h1⟩
    · exact ⟨_, h2⟩
  sub := fun b hb => by
    rcases (by simpa using hb : b = e ∨ b = it) with rfl | rfl <;> simp
  noKeys := fun A s Q E hA ⟨⟨_, he⟩, _⟩ h => getAttrOr_miss_enumerate he rfl rfl rfl enumerate_no_keys (by decide +kernel) hA h
  iter := fun A s d Q E hA ok hd hdf h => by
    obtain ⟨⟨old, he⟩, hit, ht⟩ := ok
    have hdf : d ≠ e ∧ d ≠ it ∧ d ≠ t := by simpa using hdf
    obtain ⟨de, di, dt⟩ := hdf
    refine wpAny_pyIter_enum he (h e [e, it] (fun i h => h.IsTupleIter it t i ∧ h.IsTuple t items ∧ ((∃ old, IsEnum h e it i old) ∨ ∃ old T f oT, IsEnumHeld h e it i old T f ∧ h.get? T = some oT ∧ T ≠ e ∧ T ≠ it ∧ T ≠ d)) s.heap s.toks ?_
      ⟨hit, ht, .inl ⟨old, he⟩⟩ (fun _ _ q => q) fun b hb => .inl hb)
    exact {
      off := fun hm => by
        rcases (by simpa using hm : d = e ∨ d = it) with z | z
        · exact de z
        · exact di z
      frame := fun i h1 h2 ⟨hit, ht, he⟩ hk => ⟨hit.at fun o x => hk _ o (Ne.symm di) x, ht.at fun o x => hk _ o (Ne.symm dt) x, he.elim (fun ⟨old, he⟩ => .inl ⟨old, hk _ _ (Ne.symm de) he⟩) fun ⟨old, T, f, oT, he, hT, r1, r2, r3⟩ => .inr ⟨old, T, f, oT, hk _ _ (Ne.symm de) he, hk _ _ r3 hT, r1, r2, r3⟩⟩
      item := fun i s1 Q1 E1 hi ⟨hit, ht, he⟩ hds hQ => by
        have ex := Array.getElem?_eq_getElem hi
        have ec : ((i + 1 : Nat) : Int) = (i : Int) + 1 := by omega
        have nit : s1.heap.objs.size ≠ it := by
          obtain ⟨_, x, _⟩ := id hit
          exact Nat.ne_of_gt (Heap.lt_size x)
        rcases he with ⟨old, he⟩ | ⟨old, T, f, oT, he, hT, r1, r2, r3⟩
        · refine wpAny_pyNext_enum_itemD (Draws.tuple (prog := prog) (w := w) (by first | exact hA | (simp [hA])) it t hti items) he ⟨hit, ht⟩ hi hei (by simp [hei, Ne.symm hte]) fun x' h' tk px ho hit' hT hsz hk => ?_
          exact hQ s1.heap.objs.size (.int i tk) x' h' (tk + 1) ⟨⟨_, rfl⟩, px⟩ (.inl ⟨_, hT, rfl, _, rfl⟩)
            ⟨hit'.1, hit'.2, .inr ⟨_, s1.heap.objs.size, false, _, (by rw [ec]; exact ho), hT, Nat.ne_of_gt (Heap.lt_size he), nit, Nat.ne_of_gt hds⟩⟩
            fun b o hb x => hk b o (fun y => hb (by simp [y])) (fun y => hb (by simp [y])) x
        · refine next_held_t he hT r1 r2 hit ht ex hei fun h' ho hit' hT' hk => ?_
          exact hQ s1.heap.objs.size _ _ h' (s1.toks + 1) ⟨⟨_, rfl⟩, ex⟩ (.inl ⟨_, hT', rfl, _, rfl⟩)
            ⟨hit', ht.at fun o x => hk t o hte hti x, .inr ⟨old, T, true, oT, (by rw [ec]; exact ho), hk _ _ r1 r2 hT, r1, r2, r3⟩⟩
            fun b o hb x => hk b o (fun y => hb (by simp [y])) (fun y => hb (by simp [y])) x
      done := fun s1 Q1 E1 ⟨hit, ht, he⟩ hQ => by
        have hx : items[items.size]? = none := Array.getElem?_eq_none (Nat.le_refl _)
        rcases he with ⟨old, he⟩ | ⟨old, T, f, oT, he, hT, r1, r2, r3⟩
        · exact end_enT hA he hit ht hx fun h' hk => hQ h' s1.toks fun b o hb x => hk b o (fun y => hb (by simp [y])) x
        · exact end_held_t hA he hit ht hx fun h' hk => hQ h' s1.toks fun b o hb x => hk b o (fun y => hb (by simp [y])) x }
end
/-- the numbered items -/
def numK {α : Type} : Nat → List α → List (Key × α)
  | _, [] => []
  | i, x :: xs => (.inl (i : Nat), x) :: numK (i + 1) xs
theorem numK_len {α : Type} : ∀ (i : Nat) (xs : List α), (numK i xs).length = xs.length
  | _, [] => rfl
  | i, x :: xs => by
    show (numK (i + 1) xs).length + 1 = xs.length + 1
    rw [numK_len]
theorem numK_get {α : Type} : ∀ (i : Nat) (xs : List α) (j : Nat) {x : α}, xs[j]? = some x → (numK i xs)[j]? = some (.inl ((i + j : Nat) : Int), x)
  | i, y :: xs, 0, x, h => by
    cases (Option.some.inj h)
    rfl
  | i, y :: xs, j + 1, x, h => by
    show (numK (i + 1) xs)[j]? = _
    rw [numK_get (i + 1) xs j (by simpa using h), show i + 1 + j = i + (j + 1) by omega]
theorem numK_kv : ∀ (i : Nat) {xs : List V} {us : List Value}, Vals xs us → KV (numK i xs) (numK i us)
  | _, _, _, .nil => .nil
  | i, _, _, .cons r t => .cons ⟨rfl, r⟩ (numK_kv (i + 1) t)
def tDictEn (K : PySem.W.Frag) (te : TE) : TE := fun σ H Q => te σ H fun x H1 => ∃ a xs, x = .ref a ∧ SqT K H1 a xs ∧ ∀ p, H1 p = none → Q (.ref p) (upd H1 p (.dK (mergeK [] (numK 0 xs))))
section
variable {X : Cx} {e : Expr} {te : TE} {p p2 q pos : Pos}
theorem pe_dictEn (hc : X.calm = true) (hg : Gl X "dict") (hm : X.mg "dict" = none) (hg2 : Gl X "enumerate") (hm2 : X.mg "enumerate" = none) (he : PE X e te) (na : starEach [e] X.env = (false, eval e X.env) :: starEach [] X.env) :
    PE X (.Call (.Name "dict" p) [.Call (.Name "enumerate" p2) [e] [] q] [] pos) (tDictEn X.K te) := by
  refine ⟨fun pins s σ H Q I h => ?_⟩
  refine Call_ (ld_blt I hg hm PyProof.Rows.boot_dict ?_)
  refine PyProof.Rows.callWith_type1 (PyProof.Rows.args_cons ?_ rfl) rfl rfl
  refine Call_ (ld_blt I hg2 hm2 boot_enumerate ?_)
  refine PyProof.Rows.callWith_type1 (PyProof.Rows.args_cons (thn (he.run pins s σ H _ I h) fun v s1 ⟨x, H1, I1, r1, q1⟩ => PyProof.Rows.args_nil ?_) na) na rfl
  obtain ⟨a, xs, rfl, hq, q1⟩ := q1
  cases r1
  obtain ⟨its, rv, tp, hz⟩ := I1.tuple hq
  have lt_a : a < s1.heap.objs.size := by obtain ⟨_, q, _⟩ := tp; exact Heap.lt_size q
  refine call_enT tp fun h' hen hit hk => ?_
  refine PyProof.Rows.args_nil ?_
  have I2 : Inv X pins σ H1 { s1 with heap := h' } := I1.kept (t' := s1.toks) hk
  have tp' : h'.IsTuple a its.toArray := let ⟨o, ho, r⟩ := tp; ⟨o, hk _ _ ho, r⟩
  have PA := pairs_enT (prog := X.prog) (w := X.w) (s1.heap.objs.size + 1) s1.heap.objs.size a (Nat.succ_ne_self _) (Nat.ne_of_lt (Nat.lt_succ_of_lt lt_a)) (Nat.ne_of_lt lt_a) its.toArray
  have el : its.toArray.size = its.length := List.size_toArray ..
  refine PySem.call_dict_pairs (s := { s1 with heap := h' }) (knd := mixKind X.prog X.w) (kvs := numK 0 its) PA (I2.ok.hd hc) ⟨⟨_, hen⟩, hit, tp'⟩ ⟨by rw [numK_len, el], fun j k v e => ?_⟩ (by rw [el, ← rv.length]; exact hz) fun h2 tk hd' kp => ?_
  · obtain ⟨⟨u, rfl⟩, e2⟩ := e
    have := numK_get 0 its j (x := v) (by simpa using e2)
    rw [Nat.zero_add] at this
    refine ⟨_, this, ?_⟩
    show keyIs (.inl (j : Int)) (.int j u) = true
    simp [keyIs, Value.isInt]
  · have le : s1.heap.objs.size ≤ h'.objs.size := Nat.le_of_lt (Nat.lt_trans (Nat.lt_succ_self _) (Heap.lt_size hen))
    have hm' : (h'.objs.size == sysModules) = false := beq_eq_false_iff_ne.mpr (Nat.ne_of_gt I2.big)
    have hlen : (mergeK [] (numK 0 xs)).length ≤ sizeLine := by
      have l2 := length_mergeK (numK 0 xs) []
      rw [numK_len] at l2
      simp only [List.length_nil] at l2
      omega
    have kk : ∀ b o, s1.heap.get? b = some o → h2.get? b = some o := fun b o e => kp b o (fun z => by
      have lb := Heap.lt_size e
      rcases (by simpa using z : b = s1.heap.objs.size + 1 ∨ b = s1.heap.objs.size) with z | z
      · exact Nat.ne_of_lt (Nat.lt_succ_of_lt lb) z
      · exact Nat.ne_of_lt lb z) (hk b o e)
    exact ⟨.ref _, upd H1 h'.objs.size (.dK (mergeK [] (numK 0 xs))), I1.laid (t' := tk) kk le ⟨hlen, hm', _, KV.merge (numK_kv 0 rv) .nil, hd'⟩, rfl, q1 _ (I1.hok.fresh le)⟩
end
/-! the same, by data -/
def enDictD : D → Out D
  | .tuple ds => .ok (.dict (mergeE [] (numK 0 ds)))
  | _ => .stuck
theorem numK_rep {K : PySem.W.Frag} {U : Addr → Prop} {H : Hp} : ∀ (i : Nat) {vs : List V} {ds : List D}, Reps K U H vs ds → Paired (fun kv kd => kv.1 = kd.1 ∧ Rep K U H kv.2 kd.2) (numK i vs) (numK i ds)
  | _, _, _, .nil => .nil
  | i, _, _, .cons r t => .cons ⟨rfl, r⟩ (numK_rep (i + 1) t)
section
variable {X : Cx} {H0 : Ent} {W : WX} {e : Expr} {fe : Rho → Out D} {p p2 q pos : Pos}
theorem de_dictEn (hc : X.calm = true) (hg : Gl X "dict") (hm : X.mg "dict" = none) (hg2 : Gl X "enumerate") (hm2 : X.mg "enumerate" = none) (he : DE X H0 W .b e fe) (na : starEach [e] X.env = (false, eval e X.env) :: starEach [] X.env) :
    DE X H0 W .f (.Call (.Name "dict" p) [.Call (.Name "enumerate" p2) [e] [] q] [] pos) fun ρ => (fe ρ).bind enDictD :=
  PE.imp (pe_dictEn hc hg hm hg2 hm2 he na) fun σ H Q ⟨ρ, U, P, q⟩ => ⟨ρ, U, P, PostM.first (ma := .b) P q fun d v H1 s1 P1 r1 q1 => by
    have r1' : BRep X.K U H1 v d := r1
    cases d with
    | tuple ds =>
      obtain ⟨a, vs, rfl, h1, t1⟩ := r1'.tup
      replace q1 : PostM X W .f σ H1 U Q (.ok (.dict (mergeE [] (numK 0 ds)))) := q1
      exact ⟨a, vs, rfl, h1, q1.dct (fun p hp => P1.fresh hp) (merge_rep (numK_rep 0 t1) .nil)⟩
    | _ => exact q1.elim⟩
end
end Mp
namespace Mp
open PySem PySem.Spec PyProof.Rows L2
/-! ### return isinstance(e, C), e the clause's own name -/
/-- what the class at D must say -/
def isEB (K : PySem.W.Frag) (D : Addr) : Bool :=
  (PySem.W.findIn K (.ref D) "__getattribute__" == some (some (.builtin "BaseException.__getattribute__"))) && ((PySem.W.findIn K (.ref D) "__getattr__" == some none) && ((PySem.W.subIn K (.ref D) (.type "BaseException") == some true) &&
    (PySem.W.hasDictIn K D && ((PySem.W.findIn K (.ref D) "__class__" == some (some (.builtin "object.__class__"))) && ((PySem.W.specialIn K (.builtin "object.__class__") "__get__" == some (some (.builtin "getset_descriptor.__get__"))) &&
      ((PySem.W.takesIn K (.builtin "object.__class__") == some true) && (PySem.W.mroIn K D (.type "object") == some true)))))))
theorem isEB_ok {K : PySem.W.Frag} {D : Addr} (h : isEB K D = true) : ExcC K D := by
  unfold isEB at h
  simp only [Bool.and_eq_true, beq_iff_eq] at h
  obtain ⟨h1, h2, h3, h4, h5, h6, h7, h8⟩ := h
  exact ⟨h1, h2, h3, h4, h5, h6, h7, h8⟩
section
variable {X : Cx} {H0 : Ent}
/-- the classes of the names, asked whether they are of C -/
structure IsN (X : Cx) (C : Addr) (yes no : List Str) : Prop where
  yes : ∀ y ∈ yes, ∃ D, X.mg y = some (.ref D) ∧ ExcC X.K D ∧ PySem.W.kitOne X.K (.ref D) (.ref C) = some true
  no : ∀ y ∈ no, ∃ D, X.mg y = some (.ref D) ∧ ExcC X.K D ∧ PySem.W.kitOne X.K (.ref D) (.ref C) = some false
theorem su_isi {i : Nat} {n x : Str} {C : Addr} {yes no : List Str} {p p1 p2 cpos pos : Pos} (hi : X.N[i]? = some n) (hv : Vis X.env.scope n) (hd1 : (n == ("__debug__" : Str)) = false) (hd2 : (n == ("__classdict__" : Str)) = false)
    (hg : Gl X "isinstance") (hm : X.mg "isinstance" = none) (hgx : Gl X x) (hmx : X.mg x = some (.ref C)) (hdx : (x == ("__debug__" : Str)) = false) (N : IsN X C yes no) :
    SuOk X H0 (some i) [.Return (some (.Call (.Name "isinstance" p) [.Name n p1, .Name x p2] [] cpos)) pos] (.isi yes no) := fun a oe cls d pn z f => by
  have hcr : CallR (X.suite a ((a, oe) :: pn)) (.builtin "isinstance") (fun xs H Q => ∃ D, cls = .ref D ∧ d = none ∧ ExcC X.K D ∧ rIsE X.K D a xs H Q) := by
    intro pins s σ H xs us Q I r ⟨D, e1, e2, hC, h⟩
    subst e1 e2
    exact call_isE hC z f pins s σ H xs us Q I r h
  have h1 : PE (X.suite a ((a, oe) :: pn)) (.Name n p1) (tVar i) := pe_var hi hv hd1 hd2
  have h2 : PE (X.suite a ((a, oe) :: pn)) (.Name x p2) (tC (.ref C)) := pe_glob (v := .ref C) hgx hmx rfl hdx
  have ha : PA (X.suite a ((a, oe) :: pn)) [.Name n p1, .Name x p2] (tCons (tVar i) (tCons (tC (.ref C)) tNil)) := pa_cons h1 (pa_cons h2 pa_nil rfl) rfl
  refine PSs.imp (pss_one (ps_ret (pe_callB hcr hg hm (by rfl) ha (by decide) (by decide) rfl rfl))) fun Dn σ H ⟨ρ, U, c, fs, P, xr, hs, q⟩ => ?_
  refine ⟨.ref a, hs i rfl, ?_⟩
  cases fs with
  | cons _ _ => exact q.elim
  | nil =>
    have key : ∀ b : Bool, (∃ D, X.mg c = some (.ref D) ∧ ExcC X.K D ∧ PySem.W.kitOne X.K (.ref D) (.ref C) = some b) → PostS X H0 W0 Dn H U (.ret (.bool b)) →
        ∃ D, cls = .ref D ∧ d = none ∧ ExcC X.K D ∧ rIsE X.K D a [.ref a, .ref C] H (fun v H' => Dn.rt v H') := by
      intro b ⟨D, m1, m2, m3⟩ q
      have e := xr.1
      rw [m1] at e
      cases e
      refine ⟨D, rfl, ?_, m2, .ref C, .ref C, b, rfl, fun u r => r, m3, q _ H (P.s0.trans (Same.refl H)) (rep_out (P.same (Same.refl H)) (.bl b))⟩
      rcases xr.2 with ⟨_, e⟩ | ⟨hne, _⟩
      · exact e
      · exact absurd rfl hne
    replace q : PostS X H0 W0 Dn H U (if yes.contains c = true then .ret (.bool true) else if no.contains c = true then .ret (.bool false) else .stuck) := q
    split at q
    · rename_i h
      exact key true (N.yes c (by simpa using h)) q
    · split at q
      · rename_i h
        exact key false (N.no c (by simpa using h)) q
      · exact q.elim
end
end Mp
namespace Mp
open PySem PySem.Spec PyProof.Rows L2
/-! ## an error class whose __init__ says super().__init__('..' + str(x)); self.f = x -/
/-- the scope of such an __init__ -/
structure XScope (N : List Str) (sc : Scope) : Prop where
  kind : sc.kind = .function
  co : sc.isCoroutine = false
  gen : sc.isGenerator = false
  nocell : ∀ x ∈ sc.names, x.2 ≠ .cell
  free : ∀ x : Str, sc.names.lookup x = some .free → x = "__class__"
  cls : sc.names.lookup ("__class__" : Str) = some .free
  sup : sc.names.lookup ("super" : Str) = some .globalImplicit
  par : ∀ x ∈ N, sc.names.lookup x = some .local
  nd : N.Nodup
/-- what is asked of the program's text -/
structure XProg (P : Program) (file : Str) : Prop where
  file : (P.main.file == file) = true
  top : (P.main.scope.names.lookup ("super" : Str)).isSome = false
/-- what the written part says of the class at C, its __init__ at fI (within the class at D, by the cell cc), its code cda -/
structure XCls (K : PySem.W.Frag) (C D cc cda : Addr) (file f : Str) : Prop where
  oex : OexC K C
  hv : PySem.W.excInitIn K C PySem.HandSPX.veTail "ValueError.__new__" = true
  cell : ∃ cl cld csl, K.lookup cc = some ⟨cl, cld, .cell (some (.ref D)), csl⟩
  code : ∃ cl cld vs tf csl, K.lookup cda = some ⟨cl, cld, .fields vs, csl⟩ ∧ vs[2]? = some (.str file tf)
  dcl : ∃ cd, PySem.W.clsIn K D = some cd
  sub : PySem.W.mroIn K C (.ref D) = some true
  opq : PySem.W.nsIn K cStatics "thirdparty.any" = some none
  sup : PySem.W.ks_superIn K C D "__init__" = some (some (.builtin "ValueError.__init__"))
  ve : PySem.W.subIn K (.ref C) (.type "ValueError") = some true
  no : PySem.W.findIn K (.ref C) f = some none
section
variable {CX : CXT} {P : Program} {w : World} {K : PySem.W.Frag} {mg : Str → Option Value} {base : Heap} {k : Nat} {fI C D cc cda : Addr} {name qual : Str} {params : Arguments} {scope : Scope} {dV kV doc pm ct oc : Value} {an od : Option Addr} {osl : Array (Option Value)} {N : List Str} {file f : Str}
/-- the context of the body -/
def cxS (CX : CXT) (P : Program) (w : World) (K : PySem.W.Frag) (mg : Str → Option Value) (base : Heap) (N : List Str) (qual : Str) (scope : Scope) (f cda cc : Addr) (A : Around) (outer : List Env) (s : Shared) (H : Hp) (E : XK) : Cx where
  prog := P
  w := w
  K := K
  mg := mg
  base := base
  A := A.deeper (PySem.W.ksEnv qual scope s.heap.objs.size f (.ref cda) cc)
  N := N
  s_0 := s
  H_0 := H
  env := PySem.W.ksEnv qual scope s.heap.objs.size f (.ref cda) cc
  outer := outer
  stack := PySem.W.ksEnv qual scope s.heap.objs.size f (.ref cda) cc :: outer
  ex := []
  calm := true
  fn := fun x => !(x == ("__class__" : Str))
  pn := []
  xe := fun e s' => wpAny (model P w) (A.deeper (PySem.W.ksEnv qual scope s.heap.objs.size f (.ref cda) cc)) (leaving (PySem.W.ksEnv qual scope s.heap.objs.size f (.ref cda) cc) e) (fun _ s'' => CX outer H s E e s'') (fun e' s'' => CX outer H s E e' s'') s'
theorem zip_rev {N : List Str} {us : List Value} (hn : N.Nodup) : ∀ {i : Nat} {x : Str} {u : Value}, N[i]? = some x → us[i]? = some u → (N.zip us).reverse.lookup x = some u := by
  intro i x u h1 h2
  have hm : (x, u) ∈ (N.zip us).reverse := by
    refine List.mem_reverse.mpr (List.mem_of_getElem? (i := i) ?_)
    rw [List.getElem?_zip_eq_some]
    exact ⟨h1, h2⟩
  have key : ∀ (l : List (Str × Value)), (∀ p ∈ l, p.1 = x → p.2 = u) → (x, u) ∈ l → l.lookup x = some u := by
    intro l
    induction l with
    | nil => intro _ h; cases h
    | cons p l ih =>
      intro hu hm
      obtain ⟨y, v⟩ := p
      rw [List.lookup_cons]
      cases e : x == y with
      | true =>
        have := hu (y, v) (List.mem_cons_self ..) (beq_iff_eq.mp e).symm
        rw [show v = u from this]
      | false =>
        rcases List.mem_cons.mp hm with h | h
        · cases h
          simp at e
        · exact ih (fun p hp => hu p (List.mem_cons_of_mem _ hp)) h
  refine key _ (fun p hp e => ?_) hm
  obtain ⟨j, hj⟩ := List.getElem?_of_mem (List.mem_reverse.mp hp)
  rw [List.getElem?_zip_eq_some] at hj
  rw [e] at hj
  have := nodup_ix hn h1 hj.1
  subst this
  rw [h2] at hj
  exact (Option.some.inj hj.2).symm
theorem inv_startS {A : Around} {outer : List Env} {s : Shared} {H : Hp} {E : XK} {us : List Value} {vs : List V} {h₀ : Heap} {t' : Nat} (S : XScope N scope) (XC : XCls K C D cc cda file f) (hd : A.handled = none) (e0 : Env0 P w K mg base A outer s H) (hl : vs.length = N.length) (r : Vals vs us)
    (hns : h₀.Ns s.heap.objs.size fun x => (N.zip us).reverse.lookup x) (hk : ∀ b o, s.heap.get? b = some o → h₀.get? b = some o) :
    Inv (cxS CX P w K mg base N qual scope fI cda cc A outer s H E) [] (vs.map some) H { s with heap := h₀, toks := t' } := by
  have noA : ∀ b : Addr, b ∉ (cxS CX P w K mg base N qual scope fI cda cc A outer s H E).ex := fun b z => absurd (show b ∈ ([] : List Addr) from z) (by simp)
  obtain ⟨cl, cld, csl, hcell⟩ := XC.cell
  have ce : ∀ {x : Str} {c : Addr}, List.lookup x [(("__class__" : Str), cc)] = some c → x = "__class__" ∧ c = cc := fun {x c} h => by
    rw [List.lookup_cons] at h
    cases e : x == ("__class__" : Str) with
    | true =>
      rw [e] at h
      exact ⟨beq_iff_eq.mp e, (Option.some.inj h).symm⟩
    | false =>
      rw [e] at h
      cases h
  have kB : ∀ b o, K.lookup b = some o → base.get? b = some o := e0.mod.kin
  refine ⟨⟨e0.mod, S.kind, rfl, rfl, Nat.le_refl _, fun y z c h1 h2 => ?_, fun y hy => ?_, fun y c hf h => ?_, fun _ => hd, Around.frames_deeper e0.frames, .inr ⟨rfl, rfl⟩, fun b z => absurd z (noA b), e0.bs, e0.bsz, fun b _ _ => noA b, fun b z => absurd z (noA b), e0.funs, e0.frf⟩,
    rfl, e0.bare, Un.kept hk, ⟨_, hns, fun i y v h1 h2 h3 => ?_⟩, fun y c h => ?_, e0.hok.fresh (Nat.le_refl _), fun y c h => ?_, fun p hp => absurd (show p ∈ ([] : List (Addr × Obj)) from hp) (by simp), e0.hok.kept hk, ?_⟩
  · rw [(ce h1).1, (ce h2).1]
  · have hy : scope.names.lookup y = some .cell ∨ scope.names.lookup y = some .free := hy
    rcases hy with hy | hy
    · exact absurd rfl (S.nocell _ (PySem.mem_of_lookup hy))
    · refine ⟨cc, ?_⟩
      rw [S.free y hy]
      show List.lookup ("__class__" : Str) [(("__class__" : Str), cc)] = some cc
      simp
  · rw [(ce h).1] at hf
    have hf : (!(("__class__" : Str) == ("__class__" : Str))) = true := hf
    simp at hf
  · rw [List.getElem?_map] at h2
    obtain ⟨v', e, e2⟩ := Option.map_eq_some_iff.mp h2
    cases e2
    obtain ⟨u, hu, rv⟩ := r.get e
    exact ⟨u, rv, .inl ⟨S.par y (List.mem_of_getElem? h1), zip_rev S.nd h1 hu⟩⟩
  · obtain ⟨_, rfl⟩ := ce h
    exact ⟨_, _, hk _ _ (e0.bs _ _ (kB _ _ hcell)).1, rfl⟩
  · obtain ⟨_, rfl⟩ := ce h
    exact (e0.bs _ _ (kB _ _ hcell)).2
  · rw [List.length_map]
    exact hl
theorem mcs_ok {env : Env} {o e : Expr} {m : Str} {apos pos : Pos} (hp : (apos.endLine == pos.line) = true) (hs : starEach [e] env = [(false, eval e env)]) : eval (.Call (.Attribute o m apos) [e] [] pos) env = (do
      let ov ← attributeBase o m env (eval o env)
      standAt apos.atName
      let (f, first) ← holding [ov] (getMethod ov m (do return (← importBound o env).getD true))
      callWith pos f first (backTo pos (starEach [e] env)) []) := by
  have hform : methodCallForm ([e].length + ([] : List Keyword).length) (backTo pos (starEach [e] env)) (backToKw pos (keywordEach [] env)) = true := by
    rw [hs]
    rfl
  have hpos : methodCallPos true o env apos pos = pure pos := by
    unfold methodCallPos
    rw [hp]
    rfl
  show (do
    let ov ← attributeBase o m env (eval o env)
    standAt apos.atName
    methodCall o m apos pos env ov ([e].length + ([] : List Keyword).length) (backTo pos (starEach [e] env)) (backToKw pos (keywordEach [] env))) = _
  unfold methodCall
  rw [hform, hpos]
  rfl
/-- ValueError.__init__ bound to the object, called -/
theorem call_mw {X : Cx} {pins : List (Addr × Obj)} {σ : L2.St} {H : Hp} {s : Shared} {E : Value → Shared → Prop} {A : Around} {C a u : Addr} {rest : List Value} {Q : Value → Shared → Prop} (I : Inv X pins σ H s) (hv : PySem.W.excInitIn X.K C PySem.HandSPX.veTail "ValueError.__new__" = true)
    (ea : H a = some (exo a C none)) (hu : s.heap.get? u = some (PySem.W.kxs_mw "ValueError.__init__" a)) (hz : rest.length ≤ sizeLine) (h : ∀ s', Inv X pins σ H s' → Q .none s') : wpAny (model X.prog X.w) A (call (.ref u) rest) Q E s := by
  obtain ⟨nm, N', qn, bs, bm, hdct, sn, sub, ab, col, dd, k0, k1, k2, k3, k5, hC, hT⟩ := PySem.W.excInit_of I.kIn hv
  obtain ⟨t1, he⟩ := exo_at I.hok ea
  have FB := PySem.F.excBase_ValueError
  obtain ⟨hh, g, d, tk, os⟩ := s
  refine wpAny_call (codeAny_of_tree ?_)
  show wpAny _ A.in1 (callAny (.ref u) ⟨rest, []⟩) _ _ _
  simp only [callAny]
  refine wpAny_bind (wpAny_load hu ?_)
  simp only [PySem.W.kxs_mw, show (Value.type "method-wrapper" == Value.type "method" || Value.type "method-wrapper" == Value.type "builtin_function_or_method" || Value.type "method-wrapper" == Value.type "method-wrapper") = true by decide, if_true]
  refine PySem.W.KFB.if_so (by decide) ?_
  refine wpAny_bind (PySem.W.check_bound_init FB.toExcCallFacts hC he rfl ?_)
  refine wpAny_bind (wpAny_pure (wpAny_pure ?_))
  refine ⟨plainId_quiet FB.init.plain _, codeAny_builtin FB.initEntry ?_⟩
  refine PySem.W.exc_init_tree (cls := .ref C) (t0 := t1) (dv := none) (c2 := .none) (c3 := .none) (b4 := .bool false) he hz fun h' k hx _ => ?_
  have J := I.write (t' := tk) (x := a) (e := a) (o := exo a C none) (by rw [ea]; exact True.intro) (.inl rfl) k ⟨_, hx⟩ (exo_ok hx)
  have eu : upd H a (exo a C none) = H := by
    funext b
    by_cases hb : b = a
    · rw [hb, upd_same, ea]
    · rw [upd_ne hb]
  rw [eu] at J
  exact h _ J
/-- what such an __init__ promises -/
def okXv (v : V) : Prop := (∃ i : Int, v = .int i ∧ i.natAbs.log2 < 1920) ∨ ∃ z : Str, v = .str z ∧ z.length ≤ 1000000
def spX (C : Addr) (f : Str) : Sp := fun vs H Q _ => ∃ a v, vs = [.ref a, v] ∧ okXv v ∧ H a = some (exo a C none) ∧ ∀ dx, H dx = none → dx ≠ a → Q .non (upd (upd H dx (exd dx [(f, v)])) a (exo a C (some dx)))
/-- str(x), of an int or a text -/
theorem call_str_x {X : Cx} : CallR X (.type "str") (fun xs H Q => ∃ v, xs = [v] ∧ okXv v ∧ ∀ z : Str, z.length ≤ 1000000 → Q (.str z) H) := by
  intro pins s σ H vs us Q I r h
  obtain ⟨v, rfl, hv, q⟩ := h
  rcases hv with ⟨i, rfl, hi⟩ | ⟨z, rfl, hz⟩
  · refine call_str_int pins s σ H _ us Q I r ⟨i, rfl, hi, q _ ?_⟩
    exact Nat.le_trans (int_text_len_1921 hi) (by decide)
  · exact SkE.call_str_str pins s σ H _ us Q I r ⟨z, rfl, q _ hz⟩
theorem initS_ok {pre self par : Str} {j1 p1 p2 p3 p4 p5 p6 p7 p8 p9 p10 p11 p12 p13 p14}
    (lk : K.lookup fI = some ⟨oc, od, .func (PySem.W.ksFn name qual params [.Expr (.Call (.Attribute (.Call (.Name "super" p1) [] [] p2) "__init__" p3) [.BinOp (.Constant (.str pre) j1 p4) .Add (.Call (.Name "str" p5) [.Name par p6] [] p7) p8] [] p9) p10, .Assign [.Attribute (.Name self p11) f p12] (.Name par p13) p14] scope dV kV doc pm an (.ref cda) ct cc), osl⟩)
    (hcd : PySem.W.codeIn K (.ref cda) qual = true) (S : XScope [self, par] scope) (XC : XCls K C D cc cda file f) (XP : XProg P file) (hpre : pre.length ≤ 1000000) (hn1 : (self == ("__debug__" : Str)) = false) (hn2 : (self == ("__classdict__" : Str)) = false) (hn3 : (par == ("__debug__" : Str)) = false) (hn4 : (par == ("__classdict__" : Str)) = false) (hstr : scope.names.lookup ("str" : Str) = some .globalImplicit)
    (hself : ((params.posonlyargs ++ params.args).head?).map (·.arg) = some self) (hline : (p3.endLine == p9.line) = true) (msup : mg "super" = none) (mstr : mg "str" = none) : FnOk P w K mg base CX (k + 1) fI (PySem.W.ksFn name qual params [.Expr (.Call (.Attribute (.Call (.Name "super" p1) [] [] p2) "__init__" p3) [.BinOp (.Constant (.str pre) j1 p4) .Add (.Call (.Name "str" p5) [.Name par p6] [] p7) p8] [] p9) p10, .Assign [.Attribute (.Name self p11) f p12] (.Name par p13) p14] scope dV kV doc pm an (.ref cda) ct cc) [self, par] (spX C f) := by
  refine ⟨fun vs H Q E ⟨a, v, e, _⟩ => by rw [e]; rfl, fun A outer s H args us vs Q E hr e0 hb r hsp => ?_⟩
  obtain ⟨a, v, rfl, hv, ha, hq⟩ := hsp
  obtain ⟨u0, u, rfl, ra, rv⟩ : ∃ u0 u, us = [u0, u] ∧ RelV (.ref a) u0 ∧ RelV v u := by
    cases r with
    | cons ra r2 => cases r2 with
      | cons rb r3 => cases r3; exact ⟨_, _, rfl, ra, rb⟩
  obtain rfl : u0 = Value.ref a := ra
  have KX : K.In s.heap := e0.mod.kin.keeps fun b o e => (e0.bs b o e).1
  have lim : s.heap.NoLimit := e0.mod.nolimit.keeps fun b o e => (e0.bs b o e).1
  refine PySem.ks_codeAny_call_defAt (binds := [self, par].zip [Value.ref a, u]) hr.depth (KX _ _ lk) rfl lim (PySem.W.codeRec_of KX hcd) rfl hb S.nocell (fun y hy => S.par _ (List.of_mem_zip hy).1) (fun h₀ hns hk => ?_) S.co S.gen S.kind
  have I : Inv (cxS CX P w K mg base [self, par] qual scope fI cda cc A outer s H E) [] [some (.ref a), some v] H { s with heap := h₀, toks := s.toks + ([self, par].zip [Value.ref a, u]).length } :=
    inv_startS (vs := [.ref a, v]) S XC hr.hd e0 rfl r hns hk
  obtain ⟨hp, g, d, t, os⟩ := s
  have fin : ∀ (fl : Flow) (s' : Shared), SP (cxS CX P w K mg base [self, par] qual scope fI cda cc A outer ⟨hp, g, d, t, os⟩ H E) [] { nx := fun _ H' => Q .non H', rt := Q } fl s' → CR CX outer P w H ⟨hp, g, d, t, os⟩ Q E (.ok (.ret (match fl with | .ret v => v | _ => .none))) s' := fun fl s' hs => by
    cases fl with
    | ret u =>
      obtain ⟨v, σ', H', J, rv, q⟩ := hs
      exact ⟨v, H', J.os, J.bare, J.base, J.hok, rv, q⟩
    | next =>
      obtain ⟨σ', H', J, q⟩ := hs
      exact ⟨.non, H', J.os, J.bare, J.base, J.hok, rfl, q⟩
    | brk =>
      obtain ⟨_, _, _, q⟩ := hs
      exact q.elim
    | cont =>
      obtain ⟨_, _, _, q⟩ := hs
      exact q.elim
  refine PySem.ks_wpAt_mono (Q := SP (cxS CX P w K mg base [self, par] qual scope fI cda cc A outer ⟨hp, g, d, t, os⟩ H E) [] { nx := fun _ H' => Q .non H', rt := Q }) (E' := (cxS CX P w K mg base [self, par] qual scope fI cda cc A outer ⟨hp, g, d, t, os⟩ H E).xe) ?_ fin fun e s' z => z
  show PySem.wpAt (model (cxS CX P w K mg base [self, par] qual scope fI cda cc A outer ⟨hp, g, d, t, os⟩ H E).prog (cxS CX P w K mg base [self, par] qual scope fI cda cc A outer ⟨hp, g, d, t, os⟩ H E).w) (cxS CX P w K mg base [self, par] qual scope fI cda cc A outer ⟨hp, g, d, t, os⟩ H E).A (.func [.Expr (.Call (.Attribute (.Call (.Name "super" p1) [] [] p2) "__init__" p3) [.BinOp (.Constant (.str pre) j1 p4) .Add (.Call (.Name "str" p5) [.Name par p6] [] p7) p8] [] p9) p10, .Assign [.Attribute (.Name self p11) f p12] (.Name par p13) p14] (cxS CX P w K mg base [self, par] qual scope fI cda cc A outer ⟨hp, g, d, t, os⟩ H E).env) (execs [.Expr (.Call (.Attribute (.Call (.Name "super" p1) [] [] p2) "__init__" p3) [.BinOp (.Constant (.str pre) j1 p4) .Add (.Call (.Name "str" p5) [.Name par p6] [] p7) p8] [] p9) p10, .Assign [.Attribute (.Name self p11) f p12] (.Name par p13) p14] (cxS CX P w K mg base [self, par] qual scope fI cda cc A outer ⟨hp, g, d, t, os⟩ H E).env) _ (cxS CX P w K mg base [self, par] qual scope fI cda cc A outer ⟨hp, g, d, t, os⟩ H E).xe _
  refine PySem.ks_wpAt_execs_cons (PySem.ks_wpAt_Expr_any (hi := I.quiet) ?_)
  refine PySem.ks_wpAt_MethodCall (he := mcs_ok hline rfl) ?_
  obtain ⟨ar, har, hsa⟩ : ∃ ar, (params.posonlyargs ++ params.args).head? = some ar ∧ ar.arg = self := by
    cases e : (params.posonlyargs ++ params.args).head? with
    | none => rw [e] at hself; cases hself
    | some ar =>
      rw [e] at hself
      exact ⟨ar, rfl, Option.some.inj hself⟩
  obtain ⟨ccl, cdd, vs, tf, ccs, hcode, hvs⟩ := XC.code
  obtain ⟨cel, ced, ces, hcell⟩ := XC.cell
  obtain ⟨cdD, hD⟩ := XC.dcl
  obtain ⟨mb, hb1, hb2⟩ := e0.mod.blt
  have KX2 : K.In h₀ := KX.keeps hk
  have bk : ∀ b o, base.get? b = some o → h₀.get? b = some o := fun b o e => hk b o (e0.bs b o e).1
  obtain ⟨oD, hD1, hD2⟩ : ∃ oD, h₀.get? D = some oD ∧ oD.data = .cls cdD := by
    unfold PySem.W.clsIn at hD
    split at hD
    · rename_i c d cd' sl ho
      cases hD
      exact ⟨_, KX2 _ _ ho, rfl⟩
    · cases hD
  obtain ⟨t1, hoe⟩ := exo_at I.hok ha
  refine PySem.ks_wpAt_super_base S.sup S.cls rfl rfl (KX2 _ _ lk) rfl har rfl (KX2 _ _ hcode) rfl hvs XP.file XP.top ?_
  refine PySem.W.ks_loadName_global S.kind S.sup (PySem.Calls.loadGlobal_builtin (mg := mg) (mb := mb) (e0.mod.glob.keeps bk) msup (hb1.keeps bk) ((hb2 "super" (by decide)).trans PyProof.Rows.Boot.«super») ⟨rfl, ?_⟩)
  refine wpAny_loadName_free S.kind S.cls rfl ⟨_, KX2 _ _ hcell, rfl⟩ ?_
  refine wpAny_loadName_local S.kind (by rw [hsa]; exact S.par self (List.mem_cons_self ..)) hns (by rw [hsa]; exact zip_rev (i := 0) S.nd rfl rfl) ?_
  refine PySem.ks_wpAny_isType_cls hD1 hD2 ⟨rfl, ?_⟩
  refine PySem.ks_wpAny_call_super hD1 hD2 hoe rfl (fun c z => by cases z) (PySem.W.looks_mroIn KX2 XC.sub) (fun h1 hso k1 => ?_)
  -- the method
  have KX3 : K.In h1 := KX2.keeps k1
  have hoe1 := k1 _ _ hoe
  obtain ⟨cdC, hcdC⟩ : ∃ cd, PySem.W.clsIn K C = some cd := by
    cases e : PySem.W.clsIn K C with
    | some cd => exact ⟨cd, rfl⟩
    | none =>
      have := XC.sup
      unfold PySem.W.ks_superIn at this
      rw [e] at this
      cases this
  have hsup := XC.sup
  unfold PySem.W.ks_superIn at hsup
  rw [hcdC] at hsup
  have J1 : PySem.W.InstAt h1 a ({ cls := .ref C, dict := none, data := .fields #[.ref t1, .none, .none, .none, .bool false, .none] } : Obj) C none := ⟨hoe1, rfl, rfl, trivial⟩
  refine PySem.W.kxs_getMethod PySem.W.kxs_ValueError hso (PySem.W.looks_opaque KX3 XC.opq) (l₀ := cdC.mro) (fun A Q E s k q => wpAny_bind ((PySem.W.looks_clsIn KX3 hcdC) A _ E s k (wpAny_pure q))) rfl KX3 hsup (J1.type.andThen (PySem.W.looks_subIn KX3 XC.ve)) (PySem.W.ks_ne KX3 J1 hcdC) rfl ?_
  have I1 : Inv (cxS CX P w K mg base [self, par] qual scope fI cda cc A outer ⟨hp, g, d, t, os⟩ H E) [] [some (.ref a), some v] H ⟨h1, g, d, t + ([self, par].zip [Value.ref a, u]).length, os⟩ := I.kept k1
  have hmw : (h1.push (PySem.W.kxs_mw "ValueError.__init__" a)).get? h1.objs.size = some (PySem.W.kxs_mw "ValueError.__init__" a) := Heap.get?_push_at rfl rfl
  have I2 : Inv (cxS CX P w K mg base [self, par] qual scope fI cda cc A outer ⟨hp, g, d, t, os⟩ H E) [(h1.objs.size, PySem.W.kxs_mw "ValueError.__init__" a)] [some (.ref a), some v] H ⟨h1.push (PySem.W.kxs_mw "ValueError.__init__" a), g, d, t + ([self, par].zip [Value.ref a, u]).length + 1, os⟩ := by
    refine (I1.kept (t' := t + ([self, par].zip [Value.ref a, u]).length + 1) (h' := h1.push (PySem.W.kxs_mw "ValueError.__init__" a)) fun b o e => Heap.get?_push_of_some _ e).pins_of fun p hp => ?_
    obtain rfl := List.mem_singleton.mp hp
    refine ⟨hmw, I1.hok.fresh (Nat.le_refl _), fun z => ?_, I1.nofs (Nat.le_refl _), fun v z => by cases z⟩
    obtain ⟨m, ⟨o, _, _, ho, _⟩, _⟩ := I1.loc
    have := Heap.lt_size ho
    rw [← z] at this
    exact absurd this (Nat.lt_irrefl _)
  refine PySem.W.kxs_callWith (i := "ValueError.__init__") (x := a) rfl (PySem.Calls.evalArgs_plain ?_)
  have PAr : PA (cxS CX P w K mg base [self, par] qual scope fI cda cc A outer ⟨hp, g, d, t, os⟩ H E) [.BinOp (.Constant (.str pre) j1 p4) .Add (.Call (.Name "str" p5) [.Name par p6] [] p7) p8] _ := pa_cons (pe_op op_add_str pe_str (pe_callTy call_str_x (show Gl (cxS CX P w K mg base [self, par] qual scope fI cda cc A outer ⟨hp, g, d, t, os⟩ H E) "str" from hstr) mstr PyProof.Rows.Boot.«str» (pa_cons (pe_var (i := 1) rfl (.inl (S.par par (List.mem_cons_of_mem _ (List.mem_cons_self ..)))) hn3 hn4) pa_nil))) pa_nil
  refine thn (PAr.run p9 [(h1.objs.size, PySem.W.kxs_mw "ValueError.__init__" a)] _ [some (.ref a), some v] H (fun vs H1 => H = H1 ∧ ∃ z, vs = [.str z]) I2 ?_) fun us s3 ⟨vs, H1, I3, r3, e3, z, ez⟩ => ?_
  · exact ⟨v, rfl, v, rfl, hv, fun z hz => ⟨_, _, rfl, rfl, by
      have : sizeLine = 16777216 := sizeLine_eq
      omega, rfl, _, rfl⟩⟩
  subst e3
  subst ez
  obtain ⟨u3, rfl⟩ : ∃ u3, us = [u3] := by
    cases r3 with
    | cons _ r => cases r; exact ⟨_, rfl⟩
  have hu3 := (I3.pin (h1.objs.size, PySem.W.kxs_mw "ValueError.__init__" a) (by simp)).1
  refine ⟨hu3, call_mw (X := (cxS CX P w K mg base [self, par] qual scope fI cda cc A outer ⟨hp, g, d, t, os⟩ H E)) (I3.pins_of (pins' := []) fun p hp => by cases hp) XC.hv ha hu3 (by have : sizeLine = 16777216 := sizeLine_eq; simp; omega) fun s4 I4 => ?_⟩
  refine PySem.wpAt_of_wpAny ?_
  have ht := pss_one (ps_ost (X := (cxS CX P w K mg base [self, par] qual scope fI cda cc A outer ⟨hp, g, d, t, os⟩ H E)) (f := f) (p' := p12) (pos := p14) (pe_var (i := 0) (x := self) (pos := p11) rfl (.inl (S.par self (List.mem_cons_self ..))) hn1 hn2) (pe_var (i := 1) (x := par) (pos := p13) rfl (.inl (S.par par (List.mem_cons_of_mem _ (List.mem_cons_self ..)))) hn3 hn4) rfl)
  refine ht.run [] s4 [some (.ref a), some v] H { nx := fun _ H' => Q .non H', rt := Q } I4 ?_
  exact ⟨v, rfl, .ref a, rfl, a, C, rfl, XC.oex, XC.no, .inl ⟨ha, fun dx hn ne => hq dx hn ne⟩⟩
end
end Mp
namespace Mp
open PySem PySem.Spec PyProof.Rows L2
/-! ## raise X(e), X's own __init__ keeping e as f -/
def okXd : D → Bool
  | .int i => decide (i.natAbs.log2 < 1920)
  | .str z => decide (z.length ≤ 1000000)
  | _ => false
theorem okXd_ok {K : PySem.W.Frag} {U : Addr → Prop} {H : Hp} {v : V} {d : D} (h : okXd d = true) (r : Rep K U H v d) : okXv v ∧ Imm v d := by
  cases d with
  | int i =>
    cases r
    exact ⟨.inl ⟨i, rfl, of_decide_eq_true h⟩, .inl ⟨i, rfl, rfl⟩⟩
  | str z =>
    cases r
    exact ⟨.inr ⟨z, rfl, of_decide_eq_true h⟩, .inr ⟨z, rfl, rfl⟩⟩
  | _ => cases h
/-- such a class, as the context knows it -/
structure XInit (X : Cx) (x f : Str) (C fI : Addr) (fd : FuncData) (ps : List Str) : Prop where
  mg : X.mg x = some (.ref C)
  ini : PySem.W.findIn X.K (.ref C) "__init__" = some (some (.ref fI))
  ty : PySem.W.typeIn X.K (.ref fI) = some (.type "function")
  oex : OexC X.K C
  fld : FldOk X.K (.ref C) f
  fn : FnOk X.prog X.w X.K X.mg X.base (L2.CX X.prog X.w) 1 fI fd ps (spX C f)
  bind : Binds X.K fd ps []
section
variable {X : Cx} {H0 : Ent} {W : WX}
theorem ds_raiseX {x f : Str} {e : Expr} {fe : Rho → Out D} {C fI : Addr} {fd : FuncData} {ps : List Str} {p pos pos2 : Pos} (hc : X.calm = true) (tk : Takes X W) (hr : Room 2 X.A) (hx : Passes (L2.CX X.prog X.w) X (fun _ _ _ => False)) (T : XInit X x f C fI fd ps)
    (he : DE X H0 W .v e fe) (hg : Gl X x) (hd : (x == ("__debug__" : Str)) = false) (hs : starEach [e] X.env = (false, eval e X.env) :: starEach [] X.env) :
    DS X H0 W (.Raise (some (.Call (.Name x p) [e] [] pos)) none pos2) fun ρ => (fe ρ).st ρ fun d => if okXd d = true then .exc x [(f, d)] ρ else .stuck :=
  PS.imp (ps_raise hc tk (pmk_oex (dvs := []) (ds := []) T.oex T.ini T.ty T.fn hr T.bind .nil hx hg T.mg (pa_cons he pa_nil hs) hd hs rfl)) fun Dn σ H ⟨ρ, U, P, q⟩ => by
    have q' : PostS X H0 W Dn H U ((fe ρ).st ρ fun d => if okXd d = true then .exc x [(f, d)] ρ else .stuck) := q
    show (tD X H0 W .v fe) σ H fun v H1 => _
    refine ⟨ρ, U, P, ?_⟩
    revert q'
    cases fe ρ with
    | exc c fs => exact fun q' cls dd H' s' r => q' cls dd σ H' U (Kp.same s') (P.same s') r
    | stuck => exact fun q' => q'.elim
    | ok d =>
      intro q' v H1 s1 r1
      replace q' : PostS X H0 W Dn H U (if okXd d = true then .exc x [(f, d)] ρ else .stuck) := q'
      split at q'
      case isFalse => exact q'.elim
      rename_i hok
      obtain ⟨hv, him⟩ := okXd_ok hok r1
      show [v].length ≤ 1000 ∧ _
      refine ⟨by simp, fun a ha => ⟨a, v, rfl, hv, upd_same, fun dx hdx hne => ⟨rfl, dx, [(f, v)], ?_, ?_, ?_, ?_⟩⟩⟩
      · exact upd_same
      · rw [upd_ne hne, upd_same]
      · rw [← upd_ne (H := H1) (o := exo a C none) hne]
        exact hdx
      · have e : upd (del (upd (upd (upd H1 a (exo a C none)) dx (exd dx [(f, v)])) a (exo a C (some dx))) a) dx (.xd [(f, v)]) = upd H1 dx (.xd [(f, v)]) := by
          funext b
          by_cases hb : b = dx
          · rw [hb, upd_same, upd_same]
          · rw [upd_ne hb, upd_ne hb]
            by_cases hba : b = a
            · rw [hba, del_same, ha]
            · rw [del_ne hba, upd_ne hba, upd_ne hb, upd_ne hba]
        rw [e]
        have hd1 : H1 dx = none := by
          rw [← upd_ne (H := H1) (o := exo a C none) hne]
          exact hdx
        have s2 : Same H1 (upd H1 dx (.xd [(f, v)])) := same_new hd1
        refine q' (.ref C) (some dx) σ _ U (Kp.same (s1.trans s2)) (P.same (s1.trans s2)) ⟨T.mg, .inr ⟨by simp, dx, [(f, v)], rfl, upd_same, fun g y hy => ?_⟩⟩
        rw [List.lookup_cons] at hy
        cases e2 : g == f with
        | true =>
          rw [e2] at hy
          cases hy
          obtain rfl := beq_iff_eq.mp e2
          exact ⟨T.fld, v, by simp, him⟩
        | false =>
          rw [e2] at hy
          cases hy
end
end Mp
namespace Mp
open PySem PySem.Spec PyProof.Rows L2
/-! ## a.split(b), a.join(xs) -/
def splitD : D → D → Out D
  | .str a, .str b => if (b.length == 0) = false ∧ a.length + 2 ≤ sizeLine then .ok (.list ((Txt.split a b).map .str)) else .stuck
  | _, _ => .stuck
def joinD : D → D → Out D
  | .str a, .list ds => match strsD ds with
    | some ys => if (ys.map (·.length)).sum + ys.length * a.length ≤ 16777216 then .ok (.str (Txt.join a ys)) else .stuck
    | none => .stuck
  | _, _ => .stuck
section
variable {X : Cx} {H0 : Ent} {W : WX} {o e : Expr} {apos cpos : Pos} {fo fe : Rho → Out D}
theorem de_split (ho : DE X H0 W .b o fo) (he : DE X H0 W .b e fe) (hs : starEach [e] X.env = [(false, eval e X.env)]) (hb : attributeBase o "split" X.env (eval o X.env) = eval o X.env) (hl : (apos.endLine == cpos.line) = true) :
    DE X H0 W .f (.Call (.Attribute o "split" apos) [e] [] cpos) fun ρ => (fo ρ).bind fun x => match x with
      | .str a => (fe ρ).bind fun y => splitD (.str a) y
      | _ => .stuck :=
  PE.imp (pe_split ho he hs hb hl) fun σ H Q ⟨ρ, U, P, q⟩ => ⟨ρ, U, P, PostM.first (ma := .b) P q fun d v H1 s1 P1 r1 q1 => by
    cases d with
    | str a =>
      have r1' : BRep X.K U H1 v (.str a) := r1
      obtain rfl := r1'.str
      refine ⟨⟨a, rfl⟩, ρ, U, P1, PostM.first (ma := .b) P1 (show PostM X W .f σ H1 U Q ((fe ρ).bind fun y => splitD (.str a) y) from q1) fun dk u H2 s2 P2 r2 q2 => ?_⟩
      cases dk with
      | str b =>
        have r2' : BRep X.K U H2 u (.str b) := r2
        obtain rfl := r2'.str
        replace q2 : PostM X W .f σ H2 U Q (if (b.length == 0) = false ∧ a.length + 2 ≤ sizeLine then .ok (.list ((Txt.split a b).map .str)) else .stuck) := q2
        split at q2
        · rename_i hc
          exact ⟨a, b, rfl, rfl, hc.1, hc.2, fun p hp => PostM.lst q2 (fun p hp => P2.fresh hp) (Reps.of_strs _) p hp⟩
        · exact q2.elim
      | _ => exact q2.elim
    | _ => exact q1.elim⟩
theorem de_join (ho : DE X H0 W .b o fo) (he : DE X H0 W .b e fe) (hs : starEach [e] X.env = [(false, eval e X.env)]) (hb : attributeBase o "join" X.env (eval o X.env) = eval o X.env) (hl : (apos.endLine == cpos.line) = true) :
    DE X H0 W .v (.Call (.Attribute o "join" apos) [e] [] cpos) fun ρ => (fo ρ).bind fun x => match x with
      | .str a => (fe ρ).bind fun y => joinD (.str a) y
      | _ => .stuck :=
  PE.imp (pe_join ho he hs hb hl) fun σ H Q ⟨ρ, U, P, q⟩ => ⟨ρ, U, P, PostM.first (ma := .b) P q fun d v H1 s1 P1 r1 q1 => by
    cases d with
    | str a =>
      have r1' : BRep X.K U H1 v (.str a) := r1
      obtain rfl := r1'.str
      refine ⟨⟨a, rfl⟩, ρ, U, P1, PostM.first (ma := .b) P1 (show PostM X W .v σ H1 U Q ((fe ρ).bind fun y => joinD (.str a) y) from q1) fun dk u H2 s2 P2 r2 q2 => ?_⟩
      cases dk with
      | list ds =>
        obtain ⟨l, vs, rfl, h1, t1⟩ := BRep.lst (show BRep X.K U H2 u (.list ds) from r2)
        replace q2 : PostM X W .v σ H2 U Q (match strsD ds with
          | some ys => if (ys.map (·.length)).sum + ys.length * a.length ≤ 16777216 then .ok (.str (Txt.join a ys)) else .stuck
          | none => .stuck) := q2
        split at q2
        · rename_i ys hy
          split at q2
          · rename_i hz
            rw [strsD_eq hy] at t1
            rw [Reps.strs t1] at h1
            exact ⟨a, l, ys, rfl, rfl, .inl (.inl h1), hz, q2.val (.str _)⟩
          · exact q2.elim
        · exact q2.elim
      | _ => exact q2.elim
    | _ => exact q1.elim⟩
end
end Mp
namespace Mp
open PySem PySem.Spec PyProof.Rows L2
/-! ## sorted(set(xs)), xs a list of tuples of ints -/
def enT (q : Addr × List Int) : PyData := .tuple (q.2.map .int)
section
variable {P : Program} {w : World} {A : Around} {E : Value → Shared → Prop} {s : Shared}
theorem reads_ints {h : Heap} {k : List Int} {vs : List Value} (x : PySem.ItemsAre (intKind P w) k vs) : ReadsAll h vs (k.map PyData.int) [] := by
  induction x with
  | nil => exact .nil
  | @cons k0 v ks vs h1 _ ih =>
    obtain ⟨t, rfl⟩ := Value.isInt_shape h1
    exact ReadsAll.cons (as := []) (.int k0 t) ih
theorem reads_tup {h : Heap} {k : List Int} {b : Addr} (x : IsT P w h k b) : Reads h (.ref b) (.tuple (k.map .int)) [] := by
  obtain ⟨o, items, n, ho, hc, hd, hi⟩ := x
  exact .tuple ho hc hd (reads_ints hi)
/-- one empty tuple, or none, sorts -/
theorem sorts_one {vs : List Value} {ds : List PyData} (e : PySem.W.EachIs (fun v d => ∃ as, Reads s.heap v d as) vs ds) (h0 : ∀ d ∈ ds, d = .tuple []) (h1 : vs.length ≤ 1) : PySem.W.SortsAt P w A s (PySem.W.dataKind s.heap ds) vs := by
  have hal : PySem.W.AllAlike ds := fun d hd d' hd' => by
    rw [h0 d hd, h0 d' hd']
    rfl
  refine ⟨fun v hv => ?_, PyProof.Rows.tuples' false, fun E x y a b Q ha hb hq => ?_, fun h2 => by omega⟩
  · obtain ⟨d, hd, as, r⟩ := e.left v hv
    exact ⟨_, PySem.W.dataKind_some hal hd r⟩
  · obtain ⟨d, as, hd, ra, rfl⟩ := PySem.W.dataKind_inv ha
    obtain ⟨d', as', hd', rb, rfl⟩ := PySem.W.dataKind_inv hb
    obtain rfl := h0 d hd
    obtain rfl := h0 d' hd'
    have hq' : Q (PySem.W.dataLt (.tuple []) (.tuple [])) s := hq
    cases ra with
    | @tuple l o xs n _ _ h1 h2 h3 h4 =>
      cases rb with
      | @tuple l' o' xs' n' _ _ k1 k2 k3 k4 =>
        have e1 : xs.toList = [] := by
          cases q : xs.toList with
          | nil => rfl
          | cons a r => rw [q] at h4; cases h4
        have e2 : xs'.toList = [] := by
          cases q : xs'.toList with
          | nil => rfl
          | cons a r => rw [q] at k4; cases k4
        refine PySem.W.kat_lt h1 h3 k1 k3 ?_
        rw [e1, e2]
        have n1 : xs.size = 0 := by rw [← Array.length_toList, e1]; rfl
        have n2 : xs'.size = 0 := by rw [← Array.length_toList, e2]; rfl
        rw [n1, n2]
        exact hq'
def R0 (v : Value) (q : Addr × List Int) : Prop := v = .ref q.1
theorem each_refs : ∀ L : List (Addr × List Int), PySem.W.EachIs R0 (L.map fun q => Value.ref q.1) L
  | [] => .nil
  | _ :: L => .cons rfl (each_refs L)
theorem refs_each : ∀ {vs : List Value} {L : List (Addr × List Int)}, PySem.W.EachIs R0 vs L → vs = L.map fun q => Value.ref q.1
  | _, _, .nil => rfl
  | _, _, .cons h t => by
    rw [show _ = Value.ref _ from h, refs_each t]
    rfl
theorem each_reads {h : Heap} : ∀ L : List (Addr × List Int), (∀ q ∈ L, Reads h (.ref q.1) (enT q) []) → ∀ a : Addr, PySem.W.EachIs (fun v b => ∃ as, Reads h v (enT b) as ∧ a ∉ as) (L.map fun q => Value.ref q.1) L
  | [], _, _ => .nil
  | q :: L, hL, a => .cons ⟨[], hL q (List.mem_cons_self ..), by simp⟩ (each_reads L (fun r hr => hL r (List.mem_cons_of_mem _ hr)) a)
theorem each_weak {h : Heap} {a : Addr} : ∀ {vs : List Value} {L : List (Addr × List Int)}, PySem.W.EachIs (fun v b => ∃ as, Reads h v (enT b) as ∧ a ∉ as) vs L → PySem.W.EachIs (fun v b => ∃ as, Reads h v (enT b) as) vs L
  | _, _, .nil => .nil
  | _, _, .cons ⟨as, r, _⟩ t => .cons ⟨as, r⟩ (each_weak t)
/-- xs.sort() of such a list -/
theorem sort_ts {a : Addr} {L : List (Addr × List Int)} {n : Nat} {Q : Value → Shared → Prop} (ho : s.heap.get? a = some (seqObj "list" (L.map fun q => Value.ref q.1).toArray n)) (hr : ∀ q ∈ L, Reads s.heap (.ref q.1) (enT q) [])
    (hal : PySem.W.AllAlike (L.map enT)) (hk : (∀ q ∈ L, q.2 ≠ []) ∨ (L.length ≤ 1 ∧ ∀ q ∈ L, q.2 = [])) (hL : L.length ≤ 1000) (hu : A.units + 10 < cLine)
    (h : ∀ out : List Value, out = (L.mergeSort (PySem.W.dataLe false enT)).map (fun q => Value.ref q.1) → Q .none { s with heap := sortedHeap s.heap a (L.map fun q => Value.ref q.1) out.toArray }) :
    wpAny (model P w) A (call (.builtin "list.sort") [.ref a]) Q E s := by
  have er := each_reads L hr a
  have dep : ∀ b ∈ L, (enT b).depth ≤ 1 := fun b _ => by
    have : ∀ l : List Int, PyData.depthAll (l.map PyData.int) = 0 := fun l => by
      induction l with
      | nil => rfl
      | cons i l ih =>
        show max (PyData.depth (.int i)) (PyData.depthAll (l.map PyData.int)) = 0
        rw [ih]
        rfl
    show PyData.depthAll (b.2.map PyData.int) + 1 ≤ 1
    rw [this]
    exact Nat.le_refl _
  have er' : PySem.W.EachIs (fun v b => ∃ as, Reads (PySem.W.sortingHeap s.heap a (L.map fun q => Value.ref q.1)) v (enT b) as) (L.map fun q => Value.ref q.1) L := PySem.W.each_keepBut (h' := PySem.W.sortingHeap s.heap a (L.map fun q => Value.ref q.1)) (fun _ _ hb q => PySem.W.sortingHeap_old hb q) (fun o q => by rw [ho] at q; rw [← Option.some.inj q]) hal er
  have S : PySem.W.SortsAt P w A.in1 { s with heap := PySem.W.sortingHeap s.heap a (L.map fun q => Value.ref q.1) } (PySem.W.dataKind (PySem.W.sortingHeap s.heap a (L.map fun q => Value.ref q.1)) (L.map enT)) (L.map fun q => Value.ref q.1) := by
    have e2 := PySem.W.each_map (R := fun v d => ∃ as, Reads (PySem.W.sortingHeap s.heap a (L.map fun q => Value.ref q.1)) v d as) enT er'
    rcases hk with hk | ⟨h1, h0⟩
    · refine PySem.W.SortsAt.data (s := { s with heap := PySem.W.sortingHeap s.heap a (L.map fun q => Value.ref q.1) }) e2 hal (.inl fun d hd => ?_) (PySem.W.bound_map fun b hb => ?_)
      · obtain ⟨q, hq, rfl⟩ := List.mem_map.mp hd
        unfold enT
        cases e : q.2 with
        | nil => exact absurd e (hk q hq)
        | cons i r => exact ⟨_, _, rfl⟩
      · have := dep b hb
        show A.units + 1 + (enT b).depth < cLine
        omega
    · refine sorts_one (s := { s with heap := PySem.W.sortingHeap s.heap a (L.map fun q => Value.ref q.1) }) e2 (fun d hd => ?_) (by rw [List.length_map]; exact h1)
      obtain ⟨q, hq, rfl⟩ := List.mem_map.mp hd
      unfold enT
      rw [h0 q hq]
      rfl
  refine wpAny_call_entry slot_list_sort ⟨_, ho, rfl⟩ entry_list_sort (PySem.W.list_sort_vals (κ := PySem.W.dataKind (PySem.W.sortingHeap s.heap a (L.map fun q => Value.ref q.1)) (L.map enT)) ho S (by rw [List.length_map]; exact Nat.le_trans hL (by decide)) ⟨.none, rfl, ?_⟩) (args_list_sort _)
  exact h _ (refs_each (PySem.W.sortVals_data (R := R0) false (each_refs L) er' hal))
/-- sorted(set) -/
theorem sorted_setT2 {a : Addr} {L : List (Addr × List Int)} {es : Array (Int × Value)} {ep : Nat} {t : SetTable} {Q : Value → Shared → Prop} (R : SetTR P w s.heap a L es ep t) (hh : A.handled = none) (hu : A.units + 64 < cLine)
    (hal : PySem.W.AllAlike (L.map enT)) (hk : (∀ q ∈ L, q.2 ≠ []) ∨ (L.length ≤ 1 ∧ ∀ q ∈ L, q.2 = []))
    (hQ : ∀ s' p (out : Array Value) (c : Nat) (L1 : List (Addr × List Int)), (∀ b o, s.heap.get? b = some o → s'.heap.get? b = some o) → s'.gens = s.gens → s'.os = s.os → s.heap.objs.size ≤ p →
      s'.heap.get? p = some (seqObj "list" out c) → L1.Perm L → out.toList = (L1.mergeSort (PySem.W.dataLe false enT)).map (fun q => Value.ref q.1) → Q (.ref p) s') :
    wpAny (model P w) A (call (.builtin "sorted") [.ref a]) Q E s := by
  obtain ⟨o, ho, hex, hd⟩ := R.ob
  have hsz := R.size
  have hfew := R.few
  refine Calls.call_function_entry kind_sorted plain_sorted entry_sorted (args_sorted1 _) ?_
  unfold Builtin.«sorted»
  refine wpAny_bind (m := checkCount "sorted" 1 1 _) (wpAny_pure ?_)
  refine wpAny_bind (collect_set (A := A.in1) hh ⟨o, ho, hex.1, hd⟩ R.fits (by unfold scanBound; omega) R.tab.ris R.led fun s1 vs k1 hz g1 o1 pm => ?_)
  have hes : es.toList.map (·.2) = L.map fun q => Value.ref q.1 := by
    rw [R.rows]
    unfold rowsOf
    rw [List.map_map] <;> rfl
  rw [hes] at pm
  have ord : ∀ vs : List Value, (∀ v ∈ vs, ∃ q ∈ L, v = Value.ref q.1) → ∃ L1 : List (Addr × List Int), vs = L1.map (fun q => Value.ref q.1) ∧ ∀ q ∈ L1, q ∈ L := by
    intro vs
    induction vs with
    | nil => intro _; exact ⟨[], rfl, fun q hq => (by cases hq)⟩
    | cons v vs ih =>
      intro hv
      obtain ⟨q, hq, e⟩ := hv v List.mem_cons_self
      obtain ⟨L1, e1, hs⟩ := ih fun u hu => hv u (List.mem_cons_of_mem _ hu)
      refine ⟨q :: L1, by rw [List.map_cons, e, e1], fun r hr => ?_⟩
      rcases List.mem_cons.mp hr with z | z
      · rw [z]; exact hq
      · exact hs r z
  have one : ∀ q ∈ L, ∀ r ∈ L, q.1 = r.1 → q = r := fun q hq r hr e => by
    have a1 := R.tup q hq
    have a2 := R.tup r hr
    rw [e] at a1
    have e2 : q.2 = r.2 := a1.inj a2
    exact Prod.ext e e2
  have perm_of : ∀ L1 : List (Addr × List Int), (∀ q ∈ L1, q ∈ L) → (L1.map (fun q => Value.ref q.1)).Perm (L.map fun q => Value.ref q.1) → L1.Perm L := by
    intro L1 hs pm1
    have nL : L.Nodup := nodup_of_map R.nd
    have nref : (L.map fun q => Value.ref q.1).Nodup := by
      refine List.pairwise_map.mpr (List.Pairwise.imp_of_mem (fun {q r} hq hr hne e => ?_) nL)
      injection e with e
      exact hne (one q hq r hr e)
    have n1 : L1.Nodup := nodup_of_map (pm1.nodup_iff.mpr nref)
    refine (List.perm_ext_iff_of_nodup n1 nL).mpr fun q => ⟨hs q, fun hq => ?_⟩
    have hm : Value.ref q.1 ∈ L1.map (fun q => Value.ref q.1) := pm1.mem_iff.mpr (List.mem_map.mpr ⟨q, hq, rfl⟩)
    obtain ⟨r, hr, e⟩ := List.mem_map.mp hm
    injection e with e
    rw [← one r (hs r hr) q hq e]
    exact hr
  obtain ⟨L1, e1, hs1⟩ := ord vs fun v hv => by
    obtain ⟨q, hq, e⟩ := List.mem_map.mp (pm.mem_iff.mp hv)
    exact ⟨q, hq, e.symm⟩
  have pL : L1.Perm L := perm_of L1 hs1 (by rw [← e1]; exact pm)
  have hl1 : L1.length < 64 := by rw [pL.length_eq]; exact hfew
  subst e1
  refine wpAny_bind (wpAny_newList ?_ (by rw [sizeLine_eq, List.length_map]; omega))
  have hoL : (s1.heap.push (seqObj "list" (L1.map fun q => Value.ref q.1).toArray 0)).get? s1.heap.objs.size = some (seqObj "list" (L1.map fun q => Value.ref q.1).toArray 0) := Heap.get?_push_size _ rfl
  have rd : ∀ q ∈ L1, Reads (s1.heap.push (seqObj "list" (L1.map fun q => Value.ref q.1).toArray 0)) (.ref q.1) (enT q) [] := fun q hq => reads_tup (P := P) (w := w) (isT_keep (R.tup q (hs1 q hq)) fun b u e => Heap.get?_push_of_some _ (k1 b u e))
  have hal1 : PySem.W.AllAlike (L1.map enT) := fun d hd d' hd' => hal d ((pL.map enT).mem_iff.mp hd) d' ((pL.map enT).mem_iff.mp hd')
  have hk1 : (∀ q ∈ L1, q.2 ≠ []) ∨ (L1.length ≤ 1 ∧ ∀ q ∈ L1, q.2 = []) := by
    rcases hk with hk | ⟨h1, h0⟩
    · exact .inl fun q hq => hk q (pL.mem_iff.mp hq)
    · exact .inr ⟨by rw [pL.length_eq]; exact h1, fun q hq => h0 q (pL.mem_iff.mp hq)⟩
  refine wpAny_bind (wpAny_holding (sort_ts (P := P) (w := w) (A := A.in1) (s := { s1 with heap := s1.heap.push (seqObj "list" (L1.map fun q => Value.ref q.1).toArray 0) }) hoL rd hal1 hk1 (by omega) (by show A.units + 1 + 10 < cLine; omega) fun out ho2 => ?_))
  obtain ⟨c, hc⟩ := sortedHeap_at (vs := L1.map fun q => Value.ref q.1) (out := out.toArray) hoL
  refine wpAny_pure ⟨_, rfl, hQ _ s1.heap.objs.size out.toArray c L1 (fun b u e => ?_) g1 o1 hz hc pL (by simpa using ho2)⟩
  have q := k1 b u e
  have hlt := Heap.lt_size q
  show (sortedHeap (s1.heap.push (seqObj "list" (L1.map fun q => Value.ref q.1).toArray 0)) s1.heap.objs.size (L1.map fun q => Value.ref q.1) out.toArray).get? b = some u
  rw [sortedHeap_old (Nat.ne_of_lt hlt) (by rw [size_push']; exact Nat.lt_succ_of_lt hlt)]
  exact Heap.get?_push_of_some _ q
end
/-! ### the order of such tuples -/
def leT (a b : List Int) : Bool := decide (a ≤ b)
def sortT (ks : List (List Int)) : List (List Int) := ks.mergeSort leT
def dedT : List (List Int) → List (List Int)
  | [] => []
  | x :: xs => if x ∈ xs then dedT xs else x :: dedT xs
theorem mem_dedT : ∀ (xs : List (List Int)) (k : List Int), k ∈ dedT xs ↔ k ∈ xs
  | [], k => Iff.rfl
  | x :: xs, k => by
    unfold dedT
    split
    · rename_i h
      rw [mem_dedT xs k, List.mem_cons]
      exact ⟨.inr, fun z => z.elim (fun e => e ▸ h) id⟩
    · rw [List.mem_cons, List.mem_cons, mem_dedT xs k]
theorem nodup_dedT : ∀ xs : List (List Int), (dedT xs).Nodup
  | [] => .nil
  | x :: xs => by
    unfold dedT
    split
    · exact nodup_dedT xs
    · rename_i h
      exact List.nodup_cons.mpr ⟨fun z => h ((mem_dedT xs x).mp z), nodup_dedT xs⟩
theorem leT_total (a b : List Int) : (leT a b || leT b a) = true := by
  unfold leT
  simp only [Bool.or_eq_true, decide_eq_true_eq]
  exact Std.le_total
theorem leT_trans (a b c : List Int) (h1 : leT a b = true) (h2 : leT b c = true) : leT a c = true := by
  unfold leT at *
  simp only [decide_eq_true_eq] at *
  exact Std.le_trans h1 h2
theorem leT_anti (a b : List Int) (h1 : leT a b = true) (h2 : leT b a = true) : a = b := by
  unfold leT at *
  simp only [decide_eq_true_eq] at *
  exact Std.le_antisymm h1 h2
theorem alike_ints : ∀ xs ys : List Int, PySem.W.alikeAll (xs.map PyData.int) (ys.map PyData.int) = true
  | [], _ => by simp [PySem.W.alikeAll]
  | _ :: _, [] => by simp [PySem.W.alikeAll]
  | _ :: xs, _ :: ys => by
    simp only [List.map_cons, PySem.W.alikeAll, PySem.W.alike, Bool.true_and]
    exact alike_ints xs ys
theorem alike_enT (L : List (Addr × List Int)) : PySem.W.AllAlike (L.map enT) := fun d hd d' hd' => by
  obtain ⟨q, _, rfl⟩ := List.mem_map.mp hd
  obtain ⟨r, _, rfl⟩ := List.mem_map.mp hd'
  simp only [enT, PySem.W.alike]
  exact alike_ints _ _
theorem le_enT (q r : Addr × List Int) : PySem.W.dataLe false enT q r = leT q.2 r.2 := by
  rw [PySem.W.dataLe_eq]
  show (!PySem.W.dataLt (enT r) (enT q)) = _
  unfold enT
  rw [PySem.W.dataLt_tuple]
  have e := PySem.W.dataLt_ints r.2 q.2
  unfold PySem.W.rowLt at e
  rw [e]
  unfold leT
  by_cases h : r.2 < q.2
  · have h' : ¬ q.2 ≤ r.2 := Std.not_le.mpr h
    simp [h, h']
  · have h' : q.2 ≤ r.2 := Std.not_lt.mp h
    simp [h, h']
theorem sort_the {L1 : List (Addr × List Int)} {ts : List (List Int)} (hn : (L1.map (·.2)).Nodup) (hm : ∀ k, k ∈ L1.map (·.2) ↔ k ∈ ts) : (L1.mergeSort (PySem.W.dataLe false enT)).map (·.2) = sortT (dedT ts) := by
  have e : PySem.W.dataLe false enT = fun q r : Addr × List Int => leT q.2 r.2 := by
    funext q r
    exact le_enT q r
  rw [e]
  have h1 : ((L1.mergeSort fun q r => leT q.2 r.2).map (·.2)).Pairwise (fun a b => leT a b = true) := by
    rw [List.pairwise_map]
    exact List.pairwise_mergeSort (le := fun q r : Addr × List Int => leT q.2 r.2) (fun a b c => leT_trans _ _ _) (fun a b => leT_total _ _) L1
  have h2 : (sortT (dedT ts)).Pairwise (fun a b => leT a b = true) := List.pairwise_mergeSort leT_trans leT_total _
  have p1 : ((L1.mergeSort fun q r => leT q.2 r.2).map (·.2)).Perm (L1.map (·.2)) := (List.mergeSort_perm L1 _).map _
  have p2 : (L1.map (·.2)).Perm (dedT ts) := (List.perm_ext_iff_of_nodup hn (nodup_dedT ts)).mpr fun k => (hm k).trans (mem_dedT ts k).symm
  have h3 : ((L1.mergeSort fun q r => leT q.2 r.2).map (·.2)).Perm (sortT (dedT ts)) := (p1.trans p2).trans (List.mergeSort_perm _ leT).symm
  exact h3.eq_of_pairwise (fun a b _ _ => leT_anti a b) h1 h2
def tsD : List D → Option (List (List Int))
  | [] => some []
  | .tuple xs :: ds => (intsOf xs).bind fun k => (tsD ds).map (k :: ·)
  | _ :: _ => none
def sortSetG : D → Out D
  | .list ds => match strsD ds with
    | some ns => if ns.length < 64 then .ok (.list ((sortS (dedS ns)).map .str)) else .stuck
    | none => match tsD ds with
      | some ts => if ts.length < 64 ∧ (ts.all (fun k => !k.isEmpty) || ts.all (fun k => k.isEmpty)) = true then .ok (.list ((sortT (dedT ts)).map fun k => .tuple (k.map .int))) else .stuck
      | none => .stuck
  | _ => .stuck
def tSortTs (K : PySem.W.Frag) (ta : TE) : TE := fun σ H Q => ta σ H fun x H1 => ∃ (l : Addr) (ks : List (Addr × List Int)), x = V.ref l ∧ SqL K H1 l (ks.map fun p => V.ref p.1) ∧ (∀ p ∈ ks, SqT K H1 p.1 (p.2.map V.int)) ∧ ks.length < 64 ∧ ((∀ q ∈ ks, q.2 ≠ []) ∨ ∀ q ∈ ks, q.2 = []) ∧
  ∀ (L' : List (Addr × List Int)) (p : Addr), (∀ q ∈ L', q ∈ ks) → L'.map (·.2) = sortT (dedT (ks.map (·.2))) → H1 p = none → Q (.ref p) (upd H1 p (.lst (L'.map fun q => V.ref q.1)))
section
variable {X : Cx}
theorem pe_sortTs {a : Expr} {ta : TE} {p p2 q pos : Pos} (hc : X.calm = true) (hu : X.A.units + 64 < cLine) (hg : Gl X "sorted") (hm : X.mg "sorted" = none) (hg2 : Gl X "set") (hm2 : X.mg "set" = none) (ha : PE X a ta)
    (na : starEach [a] X.env = (false, eval a X.env) :: starEach [] X.env) : PE X (.Call (.Name "sorted" p) [.Call (.Name "set" p2) [a] [] q] [] pos) (tSortTs X.K ta) := by
  refine ⟨fun pins s σ H Q I h => ?_⟩
  refine Call_ (ld_blt I hg hm PyProof.Rows.boot_sorted ?_)
  refine PyProof.Rows.callWith_builtin1 (PyProof.Rows.args_cons ?_ rfl) rfl rfl
  refine Call_ (ld_blt I hg2 hm2 PyProof.Rows.boot_set ?_)
  refine PyProof.Rows.callWith_type1 (PyProof.Rows.args_cons (thn (ha.run pins s σ H _ I h) fun v s1 ⟨x, H1, I1, r1, q1⟩ => PyProof.Rows.args_nil ?_) na) na rfl
  obtain ⟨l, ks, rfl, hq, hk, h1, h2, q1⟩ := q1
  cases r1
  obtain ⟨its, r, pl, hz⟩ := I1.list hq
  refine call_set_tups (P := X.prog) (w := X.w) ks (I1.ok.hd hc) pl.isList (by simpa using refs_of_vals r) (fun p hp => I1.isT (hk p hp)) h1 (by omega) fun h' tk L es ep t R g k => ?_
  refine PyProof.Rows.args_nil ?_
  have I2 : Inv X pins σ H1 { s1 with heap := h', toks := tk } := I1.kept fun b o e => k b o e
  have hsub : ∀ q ∈ L, q ∈ ks := fun q hq => List.mem_of_mem_take (g.sub q hq)
  have hall : ∀ q ∈ ks, q.2 ∈ L.map (·.2) := fun q hq => g.all q (by rw [List.take_length]; exact hq)
  have hsh : (∀ q ∈ L, q.2 ≠ []) ∨ (L.length ≤ 1 ∧ ∀ q ∈ L, q.2 = []) := by
    rcases h2 with h2 | h2
    · exact .inl fun q hq => h2 q (hsub q hq)
    · refine .inr ⟨?_, fun q hq => h2 q (hsub q hq)⟩
      have nd := R.nd
      match L, nd, hsub with
      | [], _, _ => exact Nat.zero_le _
      | [_], _, _ => exact Nat.le_refl _
      | x :: y :: r, nd, hsub =>
        exfalso
        have e1 := h2 x (hsub x (List.mem_cons_self ..))
        have e2 := h2 y (hsub y (List.mem_cons_of_mem _ (List.mem_cons_self ..)))
        simp [e1, e2] at nd
  refine sorted_setT2 (s := { s1 with heap := h', toks := tk }) R (I2.ok.hd hc) hu (alike_enT L) hsh fun s' p out c L1 k2 g2 o hp hgo pm hout => ?_
  have hm1 : ∀ z, z ∈ L1.map (·.2) ↔ z ∈ ks.map (·.2) := fun z => by
    rw [(pm.map (·.2)).mem_iff]
    constructor
    · intro hz
      obtain ⟨q, hq, rfl⟩ := List.mem_map.mp hz
      exact List.mem_map.mpr ⟨q, hsub q hq, rfl⟩
    · intro hz
      obtain ⟨q, hq, rfl⟩ := List.mem_map.mp hz
      exact hall q hq
  have hthe := sort_the (ts := ks.map (·.2)) ((pm.map (·.2)).nodup_iff.mpr R.nd) hm1
  have hfew : (L1.mergeSort (PySem.W.dataLe false enT)).length < 64 := by
    rw [List.length_mergeSort, pm.length_eq]
    exact R.few
  have hlen : ((L1.mergeSort (PySem.W.dataLe false enT)).map fun q => V.ref q.1).length ≤ sizeLine := by rw [List.length_map, sizeLine_eq]; omega
  have hn : H1 p = none := I2.hok.fresh hp
  have hv : Vals ((L1.mergeSort (PySem.W.dataLe false enT)).map fun q => V.ref q.1) out.toList := by rw [hout]; exact vals_of_refs _
  have J := I2.call (h' := s'.heap) (g' := s'.gens) (d' := s'.drawn) (t' := s'.toks) (ch := []) (Un.laid k2 hp hn) (I2.hok.laid k2 hp (o := .lst ((L1.mergeSort (PySem.W.dataLe false enT)).map fun q => V.ref q.1)) ⟨hlen, out.toList, c, hv, hgo⟩) (by rw [g2]; exact I2.bare) (fun _ z => nomatch z)
  have e : s' = { s1 with heap := s'.heap, gens := s'.gens, drawn := s'.drawn, toks := s'.toks } := by
    cases s'
    cases s1
    cases o
    rfl
  rw [e]
  exact ⟨.ref p, _, J, rfl, q1 _ p (fun q hq => hsub q (pm.mem_iff.mp ((List.mergeSort_perm _ _).mem_iff.mp hq))) hthe hn⟩
end
theorem tsD_eq : ∀ {ds : List D} {ts : List (List Int)}, tsD ds = some ts → ds = ts.map fun k => .tuple (k.map .int)
  | [], ts, h => by
    cases h
    rfl
  | d :: ds, ts, h => by
    unfold tsD at h
    split at h
    case h_1 => cases ‹_ = ([] : List D)›
    case h_3 => cases h
    rename_i xs ds' e
    cases e
    obtain ⟨k, h1, h2⟩ := Option.bind_eq_some_iff.mp h
    obtain ⟨r, h3, rfl⟩ := Option.map_eq_some_iff.mp h2
    rw [List.map_cons, ← intsOf_eq h1, ← tsD_eq h3]
theorem tsD_map : ∀ ts : List (List Int), tsD (ts.map fun k => .tuple (k.map .int)) = some ts
  | [] => rfl
  | k :: ts => by
    show (intsOf (k.map .int)).bind (fun k => (tsD (ts.map fun k => .tuple (k.map .int))).map (k :: ·)) = _
    rw [intsOf_map, Option.bind_some, tsD_map ts]
    rfl
theorem reps_ts {K : PySem.W.Frag} {U : Addr → Prop} {H : Hp} : ∀ {vs : List V} {ts : List (List Int)}, Reps K U H vs (ts.map fun k => .tuple (k.map .int)) → ∃ ks : List (Addr × List Int), vs = ks.map (fun p => V.ref p.1) ∧ ks.map (·.2) = ts ∧ ∀ q ∈ ks, Rep K U H (.ref q.1) (.tuple (q.2.map .int)) ∧ SqT K H q.1 (q.2.map V.int)
  | _, [], .nil => ⟨[], rfl, rfl, fun q hq => by cases hq⟩
  | _, k :: ts, .cons r t => by
    obtain ⟨ks, rfl, e2, hk⟩ := reps_ts t
    obtain ⟨a, vs, rfl, h1, t1⟩ := BRep.tup (.inl r)
    rw [Reps.ints t1] at h1
    refine ⟨(a, k) :: ks, rfl, by rw [List.map_cons, e2], fun q hq => ?_⟩
    rcases List.mem_cons.mp hq with rfl | hq
    · exact ⟨r, h1⟩
    · exact hk q hq
theorem reps_of_ts {K : PySem.W.Frag} {U : Addr → Prop} {H : Hp} : ∀ {L : List (Addr × List Int)}, (∀ q ∈ L, Rep K U H (.ref q.1) (.tuple (q.2.map .int))) → Reps K U H (L.map fun q => V.ref q.1) ((L.map (·.2)).map fun k => .tuple (k.map .int))
  | [], _ => .nil
  | q :: L, h => .cons (h q (List.mem_cons_self ..)) (reps_of_ts fun r hr => h r (List.mem_cons_of_mem _ hr))
section
variable {X : Cx} {H0 : Ent} {W : WX} {a : Expr} {fa : Rho → Out D} {p p2 q pos : Pos}
theorem de_sortSetG (hc : X.calm = true) (hu : X.A.units + 64 < cLine) (hg : Gl X "sorted") (hm : X.mg "sorted" = none) (hg2 : Gl X "set") (hm2 : X.mg "set" = none) (ha : DE X H0 W .b a fa) (na : starEach [a] X.env = (false, eval a X.env) :: starEach [] X.env) :
    DE X H0 W .f (.Call (.Name "sorted" p) [.Call (.Name "set" p2) [a] [] q] [] pos) fun ρ => (fa ρ).bind sortSetG := by
  have key : ∀ σ H Q, tD X H0 W .f (fun ρ => (fa ρ).bind sortSetG) σ H Q → tSortTx X.K (tD X H0 W .b fa) σ H Q ∨ tSortTs X.K (tD X H0 W .b fa) σ H Q := by
    intro σ H Q ⟨ρ, U, P, q⟩
    have q' : PostM X W .f σ H U Q ((fa ρ).bind sortSetG) := q
    cases e : fa ρ with
    | exc c fs =>
      rw [e] at q'
      refine .inl ⟨ρ, U, P, ?_⟩
      rw [e]
      exact q'
    | stuck =>
      rw [e] at q'
      exact q'.elim
    | ok d =>
      rw [e] at q'
      replace q' : PostM X W .f σ H U Q (sortSetG d) := q'
      cases d with
      | list ds =>
        replace q' : PostM X W .f σ H U Q (match strsD ds with
          | some ns => if ns.length < 64 then .ok (.list ((sortS (dedS ns)).map .str)) else .stuck
          | none => match tsD ds with
            | some ts => if ts.length < 64 ∧ (ts.all (fun k => !k.isEmpty) || ts.all (fun k => k.isEmpty)) = true then .ok (.list ((sortT (dedT ts)).map fun k => .tuple (k.map .int))) else .stuck
            | none => .stuck) := q'
        split at q'
        · rename_i ns hs
          split at q'
          case isFalse => exact q'.elim
          rename_i hl
          refine .inl ⟨ρ, U, P, ?_⟩
          rw [e]
          intro v H1 s1 r1
          obtain ⟨l, vs, rfl, h1, t1⟩ := BRep.lst (show BRep X.K U H1 v (.list ds) from r1)
          rw [strsD_eq hs] at t1
          rw [Reps.strs t1] at h1
          refine ⟨l, ns, rfl, .inl h1, hl, fun xs ys p nd hm h3 h4 hp => ?_⟩
          rw [sortS_the (h3.trans (dedS_perm nd hm)) h4]
          exact PostM.lst (PostM.later s1 q') (fun p hp => (P.same s1).fresh hp) (Reps.of_strs _) p hp
        · split at q'
          · rename_i ts hs
            split at q'
            case isFalse => exact q'.elim
            rename_i hl
            refine .inr ⟨ρ, U, P, ?_⟩
            rw [e]
            intro v H1 s1 r1
            obtain ⟨l, vs, rfl, h1, t1⟩ := BRep.lst (show BRep X.K U H1 v (.list ds) from r1)
            rw [tsD_eq hs] at t1
            obtain ⟨ks, rfl, e2, hk⟩ := reps_ts t1
            subst e2
            refine ⟨l, ks, rfl, .inl h1, fun p hp => (hk p hp).2, by simpa using hl.1, ?_, fun L' p hsub hL hp => ?_⟩
            · rcases Bool.or_eq_true_iff.mp hl.2 with hh | hh
              · refine .inl fun q hq z => ?_
                have := List.all_eq_true.mp hh q.2 (List.mem_map.mpr ⟨q, hq, rfl⟩)
                rw [z] at this
                simp at this
              · refine .inr fun q hq => ?_
                have := List.all_eq_true.mp hh q.2 (List.mem_map.mpr ⟨q, hq, rfl⟩)
                simpa using this
            · rw [← hL] at q'
              exact PostM.lst (PostM.later s1 q') (fun p hp => (P.same s1).fresh hp) (reps_of_ts fun q hq => (hk q (hsub q hq)).1) p hp
          · exact q'.elim
      | _ => exact q'.elim
  exact ⟨fun pins s σ H Q I h => (key σ H Q h).elim (fun z => (pe_sortTx hc hg hm hg2 hm2 ha na).run pins s σ H Q I z) fun z => (pe_sortTs hc hu hg hm hg2 hm2 ha na).run pins s σ H Q I z⟩
end
end Mp
namespace Mp
open PySem PySem.Spec PyProof.Rows L2
/-! ## the code, its meaning -/
inductive BOp where
  | add | sub | mul | fdiv | mod | pow
inductive COp where
  | eq | ne | lt | gt | le | ge | isN | notN | inn | out
def BOp.f : BOp → D → D → Out D
  | .add => addD | .sub => subD | .mul => mulD | .fdiv => fdivD | .mod => modD | .pow => powD
def COp.f : COp → D → D → Out D
  | .eq => eqD | .ne => neD | .lt => ltD | .gt => gtD | .le => leD | .ge => geD | .isN => isND | .notN => notND | .inn => inD | .out => notInD
/-- built-ins -/
inductive Bi where
  | len | abs | int | str | sum | all | any | max | min | tuple | list | dict | sorted
def or2 (f : D → Out D) (g : D → D → Out D) : List D → Out D
  | [x] => f x
  | [x, y] => g x y
  | _ => .stuck
def Bi.f : Bi → List D → Out D
  | .len => one lenF | .abs => one absF | .int => one intF | .str => one strF | .sum => one sumF | .all => one allF | .any => one anyF
  | .max => or2 maxF maxF2 | .min => or2 minF minF2 | .tuple => one tupleF | .list => one listF | .dict => one dictF | .sorted => one sortedF
mutual
inductive C where
  | lit (d : D)
  | var (i : Nat)
  | varB (i : Nat)
  | bin (o : BOp) (a b : C)
  | neg (a : C)
  | cmp (o : COp) (a b : C)
  | chain (o o' : COp) (a b c : C)
  | not (a : C)
  | and (a b : C)
  | or (a b : C)
  | ite (t : T) (a b : C)
  | idx (a b : C)
  | slice (a : C) (lo hi : Co)
  | sliceK (a : C) (lo hi st : Co)
  | dEn (e : C)
  | split (o e : C)
  | join (o e : C)
  | tup (es : Cs)
  | lst (es : Cs)
  | dct0
  | dsp (es : Cs)
  | bi (b : Bi) (es : Cs)
  | isi (a : C) (t : String)
  | call (f : Nat) (es : Cs)
  | callB (f : Nat) (es : Cs)
  | get2 (o k d : C)
  | fld (cs : List Str) (f : Str) (o : C)
  | meth (c m : Str) (i : Nat) (o : C) (es : Cs)
  | new (c : Str) (n : Nat) (fl : List (Str × Nat)) (es : Cs)
  | lenSet (e : C)
  | sortSet (e : C)
  | lc (t : Tg) (it : Ci) (w : Ct) (e : C) (vs : List Nat)
  | dc (t : Tg) (it : Ci) (w : Ct) (k v : C) (vs : List Nat)
inductive Cs where
  | nil
  | cons (c : C) (cs : Cs)
inductive Co where
  | no
  | yes (c : C)
inductive Ci where
  | pl (c : C)
  | rg1 (es : Cs)
  | rg2 (es : Cs)
  | zip (es : Cs)
  | enum (es : Cs)
  | plK (i : Nat)
inductive Ct where
  | no
  | yes (t : T)
inductive T where
  | tr (c : C)
  | cmp (o : COp) (a b : C)
  | chain (o o' : COp) (a b c : C)
  | not (t : T)
  | and (a b : T)
  | or (a b : T)
  | ite (t a b : T)
end
section
variable (G : Nat → List D → Out D)
mutual
def ev : C → Rho → Out D
  | .lit d, _ => .ok d
  | .var i, ρ => getV ρ i
  | .varB i, ρ => getB ρ i
  | .bin o a b, ρ => (ev a ρ).bind fun x => (ev b ρ).bind fun y => o.f x y
  | .neg a, ρ => (ev a ρ).bind negD
  | .cmp o a b, ρ => (ev a ρ).bind fun x => (ev b ρ).bind fun y => o.f x y
  | .chain o o' a b c, ρ => (ev a ρ).bind fun x => (ev b ρ).bind fun y => chainD x y o.f o'.f (ev c ρ)
  | .not a, ρ => ((ev a ρ).bind truthD).bind fun k => .ok (.bool (!k))
  | .and a b, ρ => (ev a ρ).bind fun d => (truthD d).bind fun k => if k = true then ev b ρ else .ok d
  | .or a b, ρ => (ev a ρ).bind fun d => (truthD d).bind fun k => if k = true then .ok d else ev b ρ
  | .ite t a b, ρ => (evT t ρ).bind fun k => if k = true then ev a ρ else ev b ρ
  | .idx a b, ρ => (ev a ρ).bind fun x => (ev b ρ).bind fun y => idxD x y
  | .slice a lo hi, ρ => (ev a ρ).bind fun x => (evO lo ρ).bind fun l => (evO hi ρ).bind fun h => sliceD x l h
  | .sliceK a lo hi st, ρ => (ev a ρ).bind fun x => (evO lo ρ).bind fun l => (evO hi ρ).bind fun h => (evO st ρ).bind fun k => sliceK x l h k
  | .dEn e, ρ => (ev e ρ).bind enDictD
  | .split o e, ρ => (ev o ρ).bind fun x => match x with
      | .str a => (ev e ρ).bind fun y => splitD (.str a) y
      | _ => .stuck
  | .join o e, ρ => (ev o ρ).bind fun x => match x with
      | .str a => (ev e ρ).bind fun y => joinD (.str a) y
      | _ => .stuck
  | .tup es, ρ => (evs es ρ).bind tupD
  | .lst es, ρ => (evs es ρ).bind lstD
  | .dct0, _ => .ok (.dict [])
  | .dsp es, ρ => (evs es ρ).bind dispD
  | .bi b es, ρ => (evs es ρ).bind b.f
  | .isi a t, ρ => (ev a ρ).bind fun d => isiO d t
  | .call f es, ρ => (evs es ρ).bind (G f)
  | .callB f es, ρ => (evs es ρ).bind (callB (G f))
  | .get2 o k d, ρ => (ev o ρ).bind fun x => match x with
      | .dict es => if insB es = true then .stuck else (ev k ρ).bind fun y => (ev d ρ).bind fun z => getD2 (.dict es) y z
      | _ => .stuck
  | .fld cs f o, ρ => (ev o ρ).bind (fldD cs f)
  | .meth c m i o es, ρ => (ev o ρ).bind fun d => if methOk c m d = true then (evs es ρ).bind fun ds => G i (d :: ds) else .stuck
  | .new c n fl es, ρ => (evs es ρ).bind (newD c n fl)
  | .lenSet e, ρ => (ev e ρ).bind lenSetF
  | .sortSet e, ρ => (ev e ρ).bind sortSetG
  | .lc t it w e vs, ρ => (evI it ρ).bind fun ds => (noxO (lcL (turnD t (evW w) (ev e) (wipeR ρ vs)) ds)).bind lstD
  | .dc t it w k v vs, ρ => (evI it ρ).bind fun ds => (noxO (dcL (turnK t (evW w) (ev k) (ev v) (wipeR ρ vs)) ds [])).bind fun es => .ok (.dict es)
def evs : Cs → Rho → Out (List D)
  | .nil, _ => .ok []
  | .cons c cs, ρ => (ev c ρ).bind fun x => (evs cs ρ).bind fun xs => .ok (x :: xs)
def evO : Co → Rho → Out (Option Int)
  | .no, _ => .ok none
  | .yes c, ρ => (ev c ρ).bind partD
def evI : Ci → Rho → Out (List D)
  | .pl c, ρ => (ev c ρ).bind itemsD
  | .rg1 es, ρ => (evs es ρ).bind range1D
  | .rg2 es, ρ => (evs es ρ).bind range2D
  | .zip es, ρ => (evs es ρ).bind zipD
  | .enum es, ρ => (evs es ρ).bind enumD2
  | .plK i, ρ => (getV ρ i).bind itemsK
def evW : Ct → Rho → Out Bool
  | .no, _ => .ok true
  | .yes t, ρ => evT t ρ
def evT : T → Rho → Out Bool
  | .tr c, ρ => (ev c ρ).bind truthD
  | .cmp o a b, ρ => ((ev a ρ).bind fun x => (ev b ρ).bind fun y => o.f x y).bind boolD
  | .chain o o' a b c, ρ => ((ev a ρ).bind fun x => (ev b ρ).bind fun y => chainD x y o.f o'.f (ev c ρ)).bind boolD
  | .not t, ρ => (evT t ρ).bind fun k => .ok (!k)
  | .and a b, ρ => (evT a ρ).bind fun k => if k = true then evT b ρ else .ok false
  | .or a b, ρ => (evT a ρ).bind fun k => if k = true then .ok true else evT b ρ
  | .ite t a b, ρ => (evT t ρ).bind fun k => if k = true then evT a ρ else evT b ρ
end
end
/-! ### statements -/
mutual
inductive S where
  | set (i : Nat) (e : C)
  | setF (i : Nat) (e : C)
  | asg (t : Tg) (e : C)
  | par (ts : List Tg) (es : Cs)
  | app (i : Nat) (e : C)
  | ext (i : Nat) (e : C)
  | put (i : Nat) (k v : C)
  | aug (i : Nat) (o : Operator) (e : C)
  | exp (e : C)
  | ret (e : C)
  | retN
  | ite (t : T) (a b : Ss)
  | for_ (t : Tg) (it : Ci) (b : Ss)
  | whl (t : T) (b : Ss)
  | pass
  | brk
  | ct
  | never
  | rais (c : Str)
  | raisX (c f : Str) (e : C)
  | try_ (b : Ss) (hs : List Hd)
  | dem (is : List Nat) (s : S)
  | lend (is : List Nat) (i : Nat) (e : C)
  | setA (i : Nat) (e : C)
  | lite (is : List Nat) (t : T) (a b : Ss)
inductive Ss where
  | nil
  | cons (s : S) (ss : Ss)
end
/-- a while loop, by any number of turns -/
noncomputable def whileR (fc : Rho → Out Bool) (fb : Rho → SOut) (ρ : Rho) : SOut :=
  @dite SOut (∃ n, whileF fc fb n ρ ≠ .stuck) (Classical.propDecidable _) (fun h => whileF fc fb h.choose ρ) fun _ => .stuck
section
variable (G : Nat → List D → Out D)
mutual
noncomputable def ex : S → Rho → SOut
  | .set i e, ρ => (ev G e ρ).st ρ (setV i ρ)
  | .setF i e, ρ => (ev G e ρ).st ρ (setF i ρ)
  | .asg t e, ρ => (ev G e ρ).st ρ (bindS t ρ)
  | .par ts es, ρ => (evs G es ρ).st ρ (bindsS ts ρ)
  | .app i e, ρ => if ownL i ρ = true then (ev G e ρ).st ρ (appD i ρ) else .stuck
  | .ext i e, ρ => if ownL i ρ = true then (ev G e ρ).st ρ (extD i ρ) else .stuck
  | .put i k v, ρ => match isOwn i ρ with
      | some _ => (ev G v ρ).st ρ fun v => (ev G k ρ).st ρ fun k => putS i ρ k v
      | none => .stuck
  | .aug i o e, ρ => match getV ρ i with
      | .ok d => (ev G e ρ).st ρ fun y => (augD o d y).st ρ (setV i ρ)
      | _ => .stuck
  | .exp e, ρ => (ev G e ρ).st ρ fun _ => .nx ρ
  | .ret e, ρ => (ev G e ρ).st ρ .ret
  | .retN, _ => .ret .none
  | .ite t a b, ρ => (evT G t ρ).st ρ fun k => if k = true then exs a ρ else exs b ρ
  | .for_ t it b, ρ => (evI G it ρ).st ρ fun ds => forL t (exs b) ds ρ
  | .whl t b, ρ => whileR (evT G t) (exs b) ρ
  | .pass, ρ => .nx ρ
  | .brk, ρ => .brk ρ
  | .ct, ρ => .ct ρ
  | .never, _ => .stuck
  | .rais c, ρ => .exc c [] ρ
  | .raisX c f e, ρ => (ev G e ρ).st ρ fun d => if okXd d = true then .exc c [(f, d)] ρ else .stuck
  | .try_ b hs, ρ => (exs b ρ).hnd hs
  | .dem is s, ρ => ex s (dem is ρ)
  | .lend is i e, ρ => (ev G e (dem is ρ)).st ρ (lendD i is ρ)
  | .setA i e, ρ => (ev G e ρ).st ρ (sumD i ρ)
  | .lite is t a b, ρ => (evT G t (dem is ρ)).st ρ fun k => if k = true then exs a ρ else exs b ρ
noncomputable def exs : Ss → Rho → SOut
  | .nil, ρ => .nx ρ
  | .cons s ss, ρ => (ex s ρ).seq (exs ss)
end
end
/-! ### the program -/
structure Fn where
  np : Nat
  nn : Nat
  body : Ss
noncomputable def run (P : List (Nat × Fn)) : Nat → Nat → List D → Out D
  | 0, _, _ => .stuck
  | n + 1, i, ds => match P.lookup i with
    | none => .stuck
    | some fn => if ds.length = fn.np then (exs (run P n) fn.body (rho0 fn.nn ds)).fin else .stuck
theorem run_arity (P : List (Nat × Fn)) (n i : Nat) {fn : Fn} (h : P.lookup i = some fn) (ds : List D) (hl : ds.length ≠ fn.np) : run P n i ds = .stuck := by
  cases n with
  | zero => rfl
  | succ n =>
    unfold run
    rw [h]
    exact if_neg hl
/-! ### turns of a while loop -/
theorem whileF_mono {fc : Rho → Out Bool} {fb : Rho → SOut} : ∀ {n m : Nat} {ρ : Rho}, whileF fc fb n ρ ≠ .stuck → n ≤ m → whileF fc fb m ρ = whileF fc fb n ρ
  | 0, _, _, h, _ => absurd rfl h
  | n + 1, 0, _, _, h => absurd h (Nat.not_succ_le_zero n)
  | n + 1, m + 1, ρ, h, hm => by
    unfold whileF at h ⊢
    cases e : fc ρ with
    | exc c fs => rfl
    | stuck => rfl
    | ok k =>
      rw [e] at h
      cases k with
      | false => rfl
      | true =>
        have h' : (match fb ρ with
          | .nx ρ2 => whileF fc fb n ρ2
          | .ct ρ2 => whileF fc fb n ρ2
          | .brk ρ2 => .nx ρ2
          | .ret d => .ret d
          | .exc c fs ρ2 => .exc c fs ρ2
          | .stuck => .stuck) ≠ SOut.stuck := h
        show (match fb ρ with
          | .nx ρ2 => whileF fc fb m ρ2
          | .ct ρ2 => whileF fc fb m ρ2
          | .brk ρ2 => .nx ρ2
          | .ret d => .ret d
          | .exc c fs ρ2 => .exc c fs ρ2
          | .stuck => .stuck) = (match fb ρ with
          | .nx ρ2 => whileF fc fb n ρ2
          | .ct ρ2 => whileF fc fb n ρ2
          | .brk ρ2 => .nx ρ2
          | .ret d => .ret d
          | .exc c fs ρ2 => .exc c fs ρ2
          | .stuck => .stuck)
        cases e2 : fb ρ with
        | nx ρ2 =>
          rw [e2] at h'
          exact whileF_mono h' (Nat.le_of_succ_le_succ hm)
        | ct ρ2 =>
          rw [e2] at h'
          exact whileF_mono h' (Nat.le_of_succ_le_succ hm)
        | brk ρ2 => rfl
        | ret d => rfl
        | exc c fs ρ2 => rfl
        | stuck => rfl
theorem whileR_eq {fc : Rho → Out Bool} {fb : Rho → SOut} {n : Nat} {ρ : Rho} (h : whileF fc fb n ρ ≠ .stuck) : whileR fc fb ρ = whileF fc fb n ρ := by
  have hx : ∃ n, whileF fc fb n ρ ≠ .stuck := ⟨n, h⟩
  unfold whileR
  rw [dif_pos hx]
  have h2 := hx.choose_spec
  rcases Nat.le_total n hx.choose with q | q
  · exact whileF_mono h q
  · exact (whileF_mono h2 q).symm
theorem whileR_or {fc : Rho → Out Bool} {fb : Rho → SOut} (ρ : Rho) : whileR fc fb ρ = .stuck ∨ ∃ n, whileR fc fb ρ = whileF fc fb n ρ := by
  unfold whileR
  split
  · rename_i h
    exact .inr ⟨_, rfl⟩
  · exact .inl rfl
end Mp
namespace Mp
open PySem PySem.Spec PyProof.Rows L2
/-! ## what a text's expression means: the translation -/
/-- what is known of classes: how they are made, their methods, the classes that have an attribute -/
structure ClT where
  nw : List (Str × Nat × List (Str × Nat))
  mt : List (Str × Str × Nat)
  fl : List (Str × List Str)
  dk : List Str
  xi : List (Str × Str)
structure Ctx where
  N : List Str
  sc : Scope
  fn : Str → Bool
  con : List (Str × D)
  fns : List (Str × Nat × Bool)
  ow : List Nat
  exs : List (Str × Bool × List Str)
  cl : ClT
def Ctx.blk (Γ : Ctx) (scope : Scope) : Ctx := { Γ with sc := relS scope Γ.sc, fn := fun x => scope.names.lookup x == some .cell }
def biNames : List Str := ["len", "abs", "int", "str", "sum", "all", "any", "max", "min", "tuple", "list", "dict", "sorted", "isinstance", "bool", "range", "zip", "enumerate", "set"]
/-- what is known of the frame -/
structure GE (X : Cx) (Γ : Ctx) (W : WX) (k : Nat) (G : Nat → List D → Out D) : Prop where
  N : X.N = Γ.N
  nd : Γ.N.Nodup
  sc : X.env.scope = Γ.sc
  kd : Γ.sc.kind = .function
  calm : X.calm = true
  fn : ∀ x, Γ.fn x = true → X.fn x = true
  room : Room k X.A
  tk : Takes X W
  con : ∀ x d, Γ.con.lookup x = some d → ∃ u v, X.mg x = some u ∧ RelV v u ∧ WrRep X.K v d
  fns : ∀ x i b, Γ.fns.lookup x = some (i, b) → ∃ n f fd ps, FnOk X.prog X.w X.K X.mg X.base (L2.CX X.prog X.w) k f fd ps (spG X.mg X.K n (G i)) ∧ (∀ ds, ds.length ≠ n → G i ds = .stuck) ∧ X.mg x = some (.ref f) ∧ PySem.W.keepIn X.K (.ref f) = true ∧ Binds X.K fd ps []
  bi : ∀ x ∈ biNames, X.mg x = none
  exs : ∀ x pl ss, Γ.exs.lookup x = some (pl, ss) → ∃ C, X.mg x = some (.ref C) ∧ (pl = true → excB X.K C = true) ∧ ∀ y pl' tt, Γ.exs.lookup y = some (pl', tt) → ∃ C', X.mg y = some (.ref C') ∧ PySem.W.exmOne X.K (.ref C') (.ref C) = some (tt.contains x) ∧ PySem.W.kitOne X.K (.ref C') (.ref C) = some (tt.contains x) ∧ isEB X.K C' = true
  k2 : 2 ≤ k
  nw : ∀ c n fl, Γ.cl.nw.lookup c = some (n, fl) → ∃ C f fd ps, PySem.W.nsIn X.K mainGlobals c = some (some (.ref C)) ∧ X.mg c = some (.ref C) ∧ Mk X.K C f ∧ FnOk X.prog X.w X.K X.mg X.base (L2.CX X.prog X.w) 1 f fd ps (spI C n fl) ∧ Binds X.K fd ps []
  mt : ∀ m c i, Γ.cl.mt.lookup m = some (c, i) → ∃ C n f fd ps, PySem.W.nsIn X.K mainGlobals c = some (some (.ref C)) ∧ L2.Cls X.K C ∧ Meth X.K C m f ∧ FnOk X.prog X.w X.K X.mg X.base (L2.CX X.prog X.w) k f fd ps (spG X.mg X.K n (G i)) ∧ (∀ ds, ds.length ≠ n → G i ds = .stuck) ∧ Binds X.K fd ps []
  fl : ∀ f cs, Γ.cl.fl.lookup f = some cs → ∀ c ∈ cs, ∃ C, PySem.W.nsIn X.K mainGlobals c = some (some (.ref C)) ∧ L2.Cls X.K C ∧ NoAttr X.K C f
  xi : ∀ x f, Γ.cl.xi.lookup x = some f → ∃ C fI fd ps, XInit X x f C fI fd ps
theorem takes_no {X : Cx} : Takes X W0 := fun _ _ ⟨_, _, _, _, _, _, _, _, _, _, _, _, _, _, _, _, w⟩ => w.elim
theorem GE.blk {X : Cx} {Γ : Ctx} {W : WX} {k : Nat} {G : Nat → List D → Out D} (g : GE X Γ W k G) {scope : Scope} (hk : scope.kind = .function) (s : Shared) (H : Hp) (C : Addr) (cl : List (Str × Addr)) (fp : List Addr) : GE (X.blk s H scope (compEnvC scope cl C X.env) fp) (Γ.blk scope) W0 k G where
  N := g.N
  nd := g.nd
  sc := by
    show relS scope X.env.scope = relS scope Γ.sc
    rw [g.sc]
  kd := hk
  calm := g.calm
  fn := fun x h => h
  room := g.room
  tk := takes_no
  con := g.con
  fns := g.fns
  bi := g.bi
  exs := g.exs
  k2 := g.k2
  nw := g.nw
  mt := g.mt
  fl := g.fl
  xi := fun x f h => let ⟨C, fI, fd, ps, T⟩ := g.xi x f h; ⟨C, fI, fd, ps, ⟨T.mg, T.ini, T.ty, T.oex, T.fld, T.fn, T.bind⟩⟩
theorem GE.tr {X : Cx} {Γ : Ctx} {W W' : WX} {k : Nat} {G : Nat → List D → Out D} (g : GE X Γ W k G) {pn : List (Addr × Obj)} {xe : Value → Shared → Prop} (tk : Takes (X.tr pn xe) W') : GE (X.tr pn xe) Γ W' k G where
  N := g.N
  nd := g.nd
  sc := g.sc
  kd := g.kd
  calm := g.calm
  fn := g.fn
  room := g.room
  tk := tk
  con := g.con
  fns := g.fns
  bi := g.bi
  exs := g.exs
  k2 := g.k2
  nw := g.nw
  mt := g.mt
  fl := g.fl
  xi := fun x f h => let ⟨C, fI, fd, ps, T⟩ := g.xi x f h; ⟨C, fI, fd, ps, ⟨T.mg, T.ini, T.ty, T.oex, T.fld, T.fn, T.bind⟩⟩
/-! ### names -/
def ixOf (x : Str) : List Str → Option Nat
  | [] => none
  | y :: ys => if x = y then some 0 else (ixOf x ys).map (· + 1)
theorem ixOf_ok {x : Str} : ∀ {N : List Str} {i : Nat}, ixOf x N = some i → N[i]? = some x
  | [], _, h => by cases h
  | y :: ys, i, h => by
    unfold ixOf at h
    split at h
    · rename_i e
      cases h
      rw [e]
      rfl
    · obtain ⟨j, h1, rfl⟩ := Option.map_eq_some_iff.mp h
      simpa using ixOf_ok h1
def visB (sc : Scope) (x : Str) : Bool := match sc.names.lookup x with
  | some .local => true
  | some .cell => true
  | some .free => true
  | _ => false
def locB (sc : Scope) (x : Str) : Bool := match sc.names.lookup x with
  | some .local => true
  | some .cell => true
  | _ => false
def glB (sc : Scope) (x : Str) : Bool := match sc.names.lookup x with
  | some .globalImplicit => true
  | _ => false
theorem visB_ok {sc : Scope} {x : Str} (h : visB sc x = true) : Vis sc x := by
  unfold visB at h
  unfold Vis
  split at h <;> first | (rename_i e; simp [e]) | cases h
theorem locB_ok {sc : Scope} {x : Str} (h : locB sc x = true) : Loc sc x := by
  unfold locB at h
  unfold L2.Loc
  split at h <;> first | (rename_i e; simp [e]) | cases h
theorem glB_ok {sc : Scope} {x : Str} (h : glB sc x = true) : sc.names.lookup x = some .globalImplicit := by
  unfold glB at h
  split at h
  · assumption
  · cases h
def okNm (x : Str) : Bool := !(x == ("__debug__" : Str)) && !(x == ("__classdict__" : Str)) && !(x == ("__name__" : Str))
theorem okNm_ok {x : Str} (h : okNm x = true) : (x == ("__debug__" : Str)) = false ∧ (x == ("__classdict__" : Str)) = false ∧ x ≠ "__name__" := by
  unfold okNm at h
  simp only [Bool.and_eq_true, Bool.not_eq_true'] at h
  exact ⟨h.1.1, h.1.2, fun e => by have := h.2; rw [e] at this; simp at this⟩
/-! ### forms -/
def notStar : Expr → Bool
  | .Starred .. => false
  | _ => true
theorem star_cons {e : Expr} (h : notStar e = true) (es : List Expr) (env : Env) : starEach (e :: es) env = (false, eval e env) :: starEach es env := by
  cases e <;> first | rfl | cases h
theorem star_pl {es : List Expr} (h : es.all notStar = true) (env : Env) (pos : Pos) : (backTo pos (starEach es env)).any (·.1) = false := by
  induction es with
  | nil => rfl
  | cons e es ih =>
    simp only [List.all_cons, Bool.and_eq_true] at h
    rw [star_cons h.1]
    show (false || (backTo pos (starEach es env)).any (·.1)) = false
    rw [ih h.2]
    rfl
def plainIx : Expr → Bool
  | .Slice .. => false
  | _ => true
theorem plainIx_ok {e : Expr} (h : plainIx e = true) : PlainIx e := by
  intro o i
  cases e <;> first | rfl | cases h
def plainT : Expr → Bool
  | .UnaryOp .Not _ _ => false
  | .BoolOp .. => false
  | .IfExp .. => false
  | .Compare .. => false
  | _ => true
theorem plainT_ok {e : Expr} (h : plainT e = true) (env : Env) : Plain1 e env := by
  intro w
  cases e with
  | UnaryOp op a p => cases op <;> first | rfl | cases h
  | BoolOp op a p => cases h
  | IfExp a b c p => cases h
  | Compare a b c p => cases h
  | _ => rfl
def notSet : Expr → Bool
  | .Set .. => false
  | _ => true
theorem notSet_ok {e : Expr} (h : notSet e = true) (env : Env) (x : Value) : foldedSetIterable e env x = pure x := by
  cases e <;> first | rfl | cases h
def baseOk : Expr → Bool
  | .Call _ args kws _ => !args.isEmpty || !kws.isEmpty
  | _ => true
theorem baseOk_ok {o : Expr} (h : baseOk o = true) (attr : Str) (env : Env) (w : Sem Value) : attributeBase o attr env w = w := by
  cases o with
  | Call f args kws p =>
    cases args with
    | nil => cases kws with
      | nil => cases h
      | cons k ks => cases f <;> rfl
    | cons a as => cases f <;> rfl
  | _ => rfl
theorem M2_ok {X : Cx} {o e f : Expr} {m : Str} {apos cpos : Pos} (h : baseOk o = true) (he : notStar e = true) (hf : notStar f = true) (hl : (apos.endLine == cpos.line) = true) : M2 X o m apos e f cpos where
  base := baseOk_ok h _ _ _
  few := by
    rw [star_cons he, star_cons hf]
    rfl
  line := hl
  trees := by
    rw [star_cons he, star_cons hf]
    rfl
theorem M1_ok {X : Cx} {o e : Expr} {m : Str} {apos cpos : Pos} (h : baseOk o = true) (he : notStar e = true) (hl : (apos.endLine == cpos.line) = true) : M1 X o m apos e cpos where
  base := baseOk_ok h _ _ _
  few := by
    rw [star_cons he]
    rfl
  line := hl
  trees := by
    rw [star_cons he]
    rfl
theorem mc_ok {X : Cx} {o : Expr} {m : Str} {apos pos : Pos} {es : List Expr} (h : baseOk o = true) (hs : es.all notStar = true) (hl : es.length < 30) (hp : (apos.endLine == pos.line) = true) : MC X o m apos es pos := by
  have hst : (backTo pos (starEach es X.env)).all (fun x => !x.1) = true := by
    clear hl
    induction es with
    | nil => rfl
    | cons e es ih =>
      simp only [List.all_cons, Bool.and_eq_true] at hs
      rw [star_cons hs.1]
      show (true && (backTo pos (starEach es X.env)).all (fun x => !x.1)) = true
      rw [ih hs.2]
      rfl
  have hform : methodCallForm (es.length + ([] : List Keyword).length) (backTo pos (starEach es X.env)) (backToKw pos (keywordEach [] X.env)) = true := by
    unfold methodCallForm
    rw [hst]
    show (true && true && decide (es.length + 0 + 0 < 30)) = true
    simpa using hl
  have hpos : methodCallPos true o X.env apos pos = pure pos := by
    unfold methodCallPos
    rw [hp]
    rfl
  refine ⟨(do return (← importBound o X.env).getD true), ?_⟩
  show (do
    let ov ← attributeBase o m X.env (eval o X.env)
    standAt apos.atName
    methodCall o m apos pos X.env ov (es.length + ([] : List Keyword).length) (backTo pos (starEach es X.env)) (backToKw pos (keywordEach [] X.env))) = _
  rw [baseOk_ok h]
  unfold methodCall
  rw [hform, hpos]
  rfl
/-! ### operators -/
def bopOf : Operator → Option BOp
  | .Add => some .add | .Sub => some .sub | .Mult => some .mul | .FloorDiv => some .fdiv | .Mod => some .mod | .Pow => some .pow
  | _ => none
def copOf : CmpOp → Option COp
  | .Eq => some .eq | .NotEq => some .ne | .Lt => some .lt | .LtE => some .le | .Gt => some .gt | .GtE => some .ge | .Is => some .isN | .IsNot => some .notN | .In => some .inn | .NotIn => some .out
section
variable {X : Cx} {H0 : Ent} {W : WX}
theorem de_bop {op : Operator} {o : BOp} {a b : Expr} {fa fb : Rho → Out D} {pos : Pos} (h : bopOf op = some o) (ha : DE X H0 W .b a fa) (hb : DE X H0 W .b b fb) : DE X H0 W .v (.BinOp a op b pos) fun ρ => (fa ρ).bind fun x => (fb ρ).bind fun y => o.f x y := by
  cases op <;> first
    | (cases h; first | exact de_add ha hb | exact de_sub ha hb | exact de_mul ha hb | exact de_fdiv ha hb | exact de_mod ha hb | exact de_pow ha hb)
    | cases h
theorem cop_ok (hu : X.A.units + 64 < cLine) {op : CmpOp} {o : COp} (h : copOf op = some o) : ∃ r, OpR X (compareOp op) r ∧ ∀ {W : WX}, Row2 X W .v r o.f := by
  cases op with
  | Eq => cases h; exact ⟨_, op_eqP hu, row_eq⟩
  | NotEq => cases h; exact ⟨_, op_neP hu, row_ne⟩
  | Lt => cases h; exact ⟨_, OpR.or op_lt (op_ltP hu), row_lt⟩
  | LtE => cases h; exact ⟨_, OpR.or op_le (op_leP hu), row_le⟩
  | Gt => cases h; exact ⟨_, OpR.or op_gt (op_gtP hu), row_gt⟩
  | GtE => cases h; exact ⟨_, OpR.or op_ge (op_geP hu), row_ge⟩
  | Is => cases h; exact ⟨_, OpR.or op_isN op_isB, row_isN⟩
  | IsNot => cases h; exact ⟨_, OpR.or op_notN op_notB, row_notN⟩
  | In => cases h; exact ⟨_, op_in3 hu, row_in⟩
  | NotIn => cases h; exact ⟨_, op_notIn3 hu, row_notIn⟩
/-! ### built-ins -/
def biOf (x : Str) : Option Bi :=
  if x = "len" then some .len else if x = "abs" then some .abs else if x = "int" then some .int else if x = "str" then some .str else if x = "sum" then some .sum else if x = "all" then some .all else if x = "any" then some .any else
  if x = "max" then some .max else if x = "min" then some .min else if x = "tuple" then some .tuple else if x = "list" then some .list else if x = "dict" then some .dict else if x = "sorted" then some .sorted else none
def Bi.nm : Bi → Str
  | .len => "len" | .abs => "abs" | .int => "int" | .str => "str" | .sum => "sum" | .all => "all" | .any => "any" | .max => "max" | .min => "min" | .tuple => "tuple" | .list => "list" | .dict => "dict" | .sorted => "sorted"
theorem biOf_ok {x : Str} {b : Bi} (h : biOf x = some b) : x = b.nm := by
  unfold biOf at h
  by_cases e_len : x = "len"
  · rw [if_pos e_len] at h
    cases h
    exact e_len
  rw [if_neg e_len] at h
  by_cases e_abs : x = "abs"
  · rw [if_pos e_abs] at h
    cases h
    exact e_abs
  rw [if_neg e_abs] at h
  by_cases e_int : x = "int"
  · rw [if_pos e_int] at h
    cases h
    exact e_int
  rw [if_neg e_int] at h
  by_cases e_str : x = "str"
  · rw [if_pos e_str] at h
    cases h
    exact e_str
  rw [if_neg e_str] at h
  by_cases e_sum : x = "sum"
  · rw [if_pos e_sum] at h
    cases h
    exact e_sum
  rw [if_neg e_sum] at h
  by_cases e_all : x = "all"
  · rw [if_pos e_all] at h
    cases h
    exact e_all
  rw [if_neg e_all] at h
  by_cases e_any : x = "any"
  · rw [if_pos e_any] at h
    cases h
    exact e_any
  rw [if_neg e_any] at h
  by_cases e_max : x = "max"
  · rw [if_pos e_max] at h
    cases h
    exact e_max
  rw [if_neg e_max] at h
  by_cases e_min : x = "min"
  · rw [if_pos e_min] at h
    cases h
    exact e_min
  rw [if_neg e_min] at h
  by_cases e_tuple : x = "tuple"
  · rw [if_pos e_tuple] at h
    cases h
    exact e_tuple
  rw [if_neg e_tuple] at h
  by_cases e_list : x = "list"
  · rw [if_pos e_list] at h
    cases h
    exact e_list
  rw [if_neg e_list] at h
  by_cases e_dict : x = "dict"
  · rw [if_pos e_dict] at h
    cases h
    exact e_dict
  rw [if_neg e_dict] at h
  by_cases e_sorted : x = "sorted"
  · rw [if_pos e_sorted] at h
    cases h
    exact e_sorted
  rw [if_neg e_sorted] at h
  cases h
def Bi.fr : Bi → Bool
  | .list => true | .dict => true | .sorted => true
  | _ => false
def frMd : Bool → Md
  | true => .f
  | false => .v
theorem RowL.or2 {m : Md} {r r' : List V → Hp → VK → Prop} {f : D → Out D} {g : D → D → Out D} (h1 : RowL X W m r (Mp.one f)) (h2 : RowL X W m r' (Mp.two g)) : RowL X W m (fun xs H Q => r xs H Q ∨ r' xs H Q) (Mp.or2 f g) := fun σ U H vs ds Q hf rs q => by
  match ds, rs, q with
  | [d], rs, q => exact .inl (h1 σ U H vs [d] Q hf rs q)
  | [d, e], rs, q => exact .inr (h2 σ U H vs [d, e] Q hf rs q)
  | [], rs, q => exact q.elim
  | _ :: _ :: _ :: _, rs, q => exact q.elim
def biVal (b : Bi) (f : Value) : Prop := bootBuiltins b.nm = some f
theorem bi_ok (hc : X.calm = true) (hu : X.A.units + 64 < cLine) (b : Bi) : (∃ id r, bootBuiltins b.nm = some (.builtin id) ∧ CallR X (.builtin id) r ∧ RowL X W (frMd b.fr) r b.f) ∨ ∃ T r, bootBuiltins b.nm = some (.type T) ∧ CallR X (.type T) r ∧ RowL X W (frMd b.fr) r b.f := by
  cases b with
  | len => exact .inl ⟨"len", _, rfl, call_len.or call_lenRd, row_len⟩
  | abs => exact .inl ⟨"abs", _, rfl, call_abs, row_abs⟩
  | int => exact .inr ⟨"int", _, rfl, call_int1.or call_int_str, row_int1⟩
  | str => exact .inr ⟨"str", _, rfl, call_str_int, row_str⟩
  | sum => exact .inl ⟨"sum", _, rfl, cr_sum hc, row_sum⟩
  | all => exact .inl ⟨"all", _, rfl, cr_all hc, row_all⟩
  | any => exact .inl ⟨"any", _, rfl, cr_any hc, row_any⟩
  | max => exact .inl ⟨"max", _, rfl, (cr_max hc).or (call_max2 hc), row_max.or2 row_max2⟩
  | min => exact .inl ⟨"min", _, rfl, (cr_min hc).or (call_min2 hc), row_min.or2 row_min2⟩
  | tuple => exact .inr ⟨"tuple", _, rfl, call_tupN, row_tuple⟩
  | list => exact .inr ⟨"list", _, rfl, call_list_of.or (call_listD hc), row_list⟩
  | dict => exact .inr ⟨"dict", _, rfl, (call_dictP hc).or (call_dictD.or (call_dictT hc)), row_dict⟩
  | sorted => exact .inl ⟨"sorted", _, rfl, (cr_sortData hu).or ((call_sortedD hc).or (call_sortedDI hc)), row_sorted⟩
theorem bi_nm (b : Bi) : b.nm ∈ biNames ∧ b.nm ≠ "__name__" ∧ (b.nm == ("__debug__" : Str)) = false := by
  cases b <;> decide +kernel
theorem de_bi {b : Bi} {p pos : Pos} {e : Expr} {es : List Expr} {f : Rho → Out (List D)} (hc : X.calm = true) (hu : X.A.units + 64 < cLine) (hg : Gl X b.nm) (hm : X.mg b.nm = none) (hs : (e :: es).all notStar = true) (ha : DA X H0 W true (e :: es) f) :
    DE X H0 W (frMd b.fr) (.Call (.Name b.nm p) (e :: es) [] pos) fun ρ => (f ρ).bind b.f := by
  obtain ⟨h1, h2, h3⟩ := bi_nm b
  simp only [List.all_cons, Bool.and_eq_true] at hs
  rcases bi_ok (W := W) hc hu b with ⟨id, r, e1, e2, e3⟩ | ⟨T, r, e1, e2, e3⟩
  · exact de_callB e2 e3 hg hm e1 h2 h3 (star_cons hs.1 _ _) (star_pl hs.2 _ _) ha
  · exact de_callTy e2 e3 hg hm e1 h2 h3 (star_cons hs.1 _ _) (star_pl hs.2 _ _) ha
end
/-! ### blocks -/
def ownOf (N : List Str) : List (Str × NameKind) → List (Str × Nat)
  | [] => []
  | (x, k) :: r => match k with
    | .local => (match ixOf x N with
      | some i => (x, i) :: ownOf N r
      | none => ownOf N r)
    | .cell => (match ixOf x N with
      | some i => (x, i) :: ownOf N r
      | none => ownOf N r)
    | _ => ownOf N r
def isFree : Option NameKind → Bool
  | some .cell => true
  | some .free => true
  | _ => false
def blkB (N : List Str) (sc scope : Scope) (own : List (Str × Nat)) : Bool :=
  (scope.kind == .function) && (scope.names.all fun y => scope.names.lookup y.1 == some y.2) && (own.all fun p => N[p.2]? == some p.1) &&
  (scope.names.all fun y => match y.2 with
    | .free => isFree (sc.names.lookup y.1)
    | .local => (own.map (·.1)).contains y.1 || !N.contains y.1
    | .cell => (own.map (·.1)).contains y.1 || !N.contains y.1
    | _ => true)
theorem blkB_ok {N : List Str} {sc scope : Scope} {own : List (Str × Nat)} (h : blkB N sc scope own = true) : BlkOk N sc scope own := by
  unfold blkB at h
  simp only [Bool.and_eq_true, List.all_eq_true, beq_iff_eq] at h
  obtain ⟨⟨⟨h1, h2⟩, h3⟩, h4⟩ := h
  refine ⟨h1, fun y hy => h2 y hy, fun p hp => h3 p hp, fun y hy e => ?_, fun y hy e => ?_⟩
  · have := h4 y hy
    rw [e] at this
    simp only [isFree] at this
    split at this
    · rename_i q; exact .inl q
    · rename_i q; exact .inr q
    · cases this
  · have := h4 y hy
    rcases e with e | e
    · rw [e] at this
      simp only [Bool.or_eq_true, List.contains_iff_mem, Bool.not_eq_true', ← Bool.not_eq_true] at this
      exact this
    · rw [e] at this
      simp only [Bool.or_eq_true, List.contains_iff_mem, Bool.not_eq_true', ← Bool.not_eq_true] at this
      exact this
end Mp
namespace Mp
open PySem PySem.Spec PyProof.Rows L2
/-! ## the translation of expressions -/
def isFr : C → Bool
  | .lst _ => true
  | .dct0 => true
  | .dsp _ => true
  | .lc .. => true
  | .dc .. => true
  | .bi b _ => b.fr
  | .new .. => true
  | .sortSet _ => true
  | .dEn _ => true
  | .split .. => true
  | _ => false
def cK : Const → Option C
  | .int i => some (.lit (.int i))
  | .bool b => some (.lit (.bool b))
  | .str x => some (.lit (.str x))
  | .none => some (.lit .none)
  | _ => none
/-- a local name's slot -/
def slotOf (Γ : Ctx) (x : Str) : Option Nat := if visB Γ.sc x = true ∧ okNm x = true then ixOf x Γ.N else none
def cN (Γ : Ctx) (x : Str) : Option C := match slotOf Γ x with
  | some i => some (.var i)
  | none => if glB Γ.sc x = true ∧ okNm x = true then (Γ.con.lookup x).map .lit else none
def isTupE : Expr → Bool
  | .Tuple .. => true
  | _ => false
mutual
def cTg : Nat → Ctx → Expr → Option Tg
  | 0, _, _ => none
  | n + 1, Γ, e => match e with
    | .Name x _ => if locB Γ.sc x = true ∧ (Γ.fn x = true ∨ Γ.sc.names.lookup x = some .local) then (ixOf x Γ.N).map .nm else none
    | .Tuple es _ _ => if es.all notStar = true then (cTgs n Γ es).map .tup else none
    | _ => none
def cTgs : Nat → Ctx → List Expr → Option (List Tg)
  | 0, _, _ => none
  | _ + 1, _, [] => some []
  | n + 1, Γ, e :: es => (cTg n Γ e).bind fun t => (cTgs n Γ es).map fun ts => t :: ts
end
/-- a name that is told to be a dict -/
def ckOf (Γ : Ctx) : Expr → Option Nat
  | .Name x _ => if Γ.cl.dk.contains x = true then slotOf Γ x else none
  | _ => none
def ciK (o : Option Nat) (r : Option Ci) : Option Ci := match o with
  | some i => some (.plK i)
  | none => r
theorem ckOf_ok {Γ : Ctx} {e : Expr} {i : Nat} (h : ckOf Γ e = some i) : ∃ x p, e = .Name x p ∧ slotOf Γ x = some i := by
  unfold ckOf at h
  split at h
  · split at h
    · exact ⟨_, _, rfl, h⟩
    · cases h
  · cases h
/-- dict(enumerate(a)) -/
def enArg (x : Str) : List Expr → Option Expr
  | [.Call (.Name s _) [a] [] _] => if x = "dict" ∧ s = "enumerate" then some a else none
  | _ => none
theorem enArg_ok {x : Str} {es : List Expr} {a : Expr} (h : enArg x es = some a) : x = "dict" ∧ ∃ p q, es = [.Call (.Name "enumerate" p) [a] [] q] := by
  unfold enArg at h
  split at h
  · split at h
    · rename_i e
      cases h
      obtain ⟨e1, e2⟩ := e
      subst e2
      exact ⟨e1, _, _, rfl⟩
    · cases h
  · cases h
/-- set(a) -/
def setArg : List Expr → Option Expr
  | [.Call (.Name s _) [a] [] _] => if s = "set" then some a else none
  | _ => none
theorem setArg_ok {es : List Expr} {a : Expr} (h : setArg es = some a) : ∃ p q, es = [.Call (.Name "set" p) [a] [] q] := by
  unfold setArg at h
  split at h
  · split at h
    · rename_i e
      cases h
      subst e
      exact ⟨_, _, rfl⟩
    · cases h
  · cases h
mutual
/-- as it is -/
def cE : Nat → Ctx → Expr → Option C
  | 0, _, _ => none
  | n + 1, Γ, e => match e with
    | .Constant k _ _ => cK k
    | .Name x _ => cN Γ x
    | .BinOp a op b _ => (bopOf op).bind fun o => (cB n Γ a).bind fun a => (cB n Γ b).map fun b => .bin o a b
    | .UnaryOp op a _ => match op with
      | .USub => (cB n Γ a).map .neg
      | .Not => (cB n Γ a).map .not
      | _ => none
    | .BoolOp op es _ => if 2 ≤ es.length then cBool n Γ op es else none
    | .IfExp t a b _ => (cT n Γ t).bind fun t => (cE n Γ a).bind fun a => (cE n Γ b).map fun b => .ite t a b
    | .Compare a ops bs _ => match ops, bs with
      | [op], [b] => if behindInMarks op b = false then (copOf op).bind fun o => (cB n Γ a).bind fun a => (cB n Γ b).map fun b => .cmp o a b else none
      | [op, op'], [b, c] => if lastMarks [op, op'] [b, c] = false then (copOf op).bind fun o => (copOf op').bind fun o' => (cB n Γ a).bind fun a => (cB n Γ b).bind fun b => (cB n Γ c).map fun c => .chain o o' a b c else none
      | _, _ => none
    | .Tuple es _ _ => (cA n Γ false es).map .tup
    | .List es _ => (cA n Γ false es).map .lst
    | .Dict ks vs _ => match ks, vs with
      | [], [] => some .dct0
      | k :: ks, vs => if ks.length < 15 then (cP n Γ (k :: ks) vs).map .dsp else none
      | _, _ => none
    | .Subscript a i _ => match i with
      | .Slice lo hi none _ => (cB n Γ a).bind fun a => (cO n Γ lo).bind fun lo => (cO n Γ hi).map fun hi => .slice a lo hi
      | .Slice lo hi (some st) _ => (cB n Γ a).bind fun a => (cO n Γ lo).bind fun lo => (cO n Γ hi).bind fun hi => (cO n Γ (some st)).map fun st => .sliceK a lo hi st
      | i => if plainIx i = true then (cB n Γ a).bind fun a => (cB n Γ i).map fun i => .idx a i else none
    | .ListComp elt gs scope _ => match gs with
      | [⟨tg, iter, ifs, as⟩] => if as = 0 ∧ blkB Γ.N Γ.sc scope (ownOf Γ.N scope.names) = true ∧ notSet iter = true then
          (ciK (ckOf Γ iter) (cI n Γ true tg iter)).bind fun it => (cTg n (Γ.blk scope) tg).bind fun t => (cW n (Γ.blk scope) ifs).bind fun w => (cE n (Γ.blk scope) elt).bind fun e =>
            if t.ixs.all (fun j => ((ownOf Γ.N scope.names).map (·.2)).contains j) = true then some (.lc t it w e ((ownOf Γ.N scope.names).map (·.2))) else none else none
      | _ => none
    | .DictComp kx vx gs scope _ => match gs with
      | [⟨tg, iter, ifs, as⟩] => if as = 0 ∧ blkB Γ.N Γ.sc scope (ownOf Γ.N scope.names) = true ∧ notSet iter = true then
          (cI n Γ true tg iter).bind fun it => (cTg n (Γ.blk scope) tg).bind fun t => (cW n (Γ.blk scope) ifs).bind fun w => (cE n (Γ.blk scope) kx).bind fun k => (cE n (Γ.blk scope) vx).bind fun v =>
            if t.ixs.all (fun j => ((ownOf Γ.N scope.names).map (·.2)).contains j) = true then some (.dc t it w k v ((ownOf Γ.N scope.names).map (·.2))) else none else none
      | _ => none
    | .Call f es kws pos => match kws with
      | [] => match f with
        | .Name x _ => if glB Γ.sc x = true ∧ okNm x = true ∧ es.all notStar = true then cCall n Γ x es else none
        | .Attribute o name apos => match Γ.cl.mt.lookup name with
          | some (c, i) => if baseOk o = true ∧ es.all notStar = true ∧ es.length < 30 ∧ (apos.endLine == pos.line) = true then (cE n Γ o).bind fun o => (cA n Γ false es).map fun cs => .meth c name i o cs else none
          | none => match es with
          | [k, d] => if name = "get" ∧ baseOk o = true ∧ notStar k = true ∧ notStar d = true ∧ (apos.endLine == pos.line) = true then
              (cB n Γ o).bind fun o => (cB n Γ k).bind fun k => (cE n Γ d).map fun d => .get2 o k d else none
          | [k] => if name = "get" ∧ baseOk o = true ∧ notStar k = true ∧ (apos.endLine == pos.line) = true then
              (cB n Γ o).bind fun o => (cB n Γ k).map fun k => .get2 o k (.lit .none)
            else if name = "split" ∧ baseOk o = true ∧ notStar k = true ∧ (apos.endLine == pos.line) = true then (cB n Γ o).bind fun o => (cB n Γ k).map fun k => .split o k
            else if name = "join" ∧ baseOk o = true ∧ notStar k = true ∧ (apos.endLine == pos.line) = true then (cB n Γ o).bind fun o => (cB n Γ k).map fun k => .join o k else none
          | _ => none
        | _ => none
      | _ => none
    | .Attribute o f _ => if baseOk o = true then (Γ.cl.fl.lookup f).bind fun cs => (cB n Γ o).map fun o => .fld cs f o else none
    | _ => none
/-- read, perhaps owned -/
def cB : Nat → Ctx → Expr → Option C
  | 0, _, _ => none
  | n + 1, Γ, e => match e with
    | .Name x _ => match slotOf Γ x with
      | some i => some (.varB i)
      | none => cN Γ x
    | e => cE n Γ e
def cBool : Nat → Ctx → BoolOp → List Expr → Option C
  | 0, _, _, _ => none
  | n + 1, Γ, op, es => match es with
    | [] => none
    | [e] => cE n Γ e
    | e :: e2 :: es => (cE n Γ e).bind fun a => (cBool n Γ op (e2 :: es)).map fun b => match op with
      | .And => .and a b
      | .Or => .or a b
def cA : Nat → Ctx → Bool → List Expr → Option Cs
  | 0, _, _, _ => none
  | n + 1, Γ, b, es => match es with
    | [] => some .nil
    | e :: es => if notStar e = true then (match b with
      | true => cB n Γ e
      | false => cE n Γ e).bind fun c => (cA n Γ b es).map fun cs => .cons c cs else none
def cP : Nat → Ctx → List (Option Expr) → List Expr → Option Cs
  | 0, _, _, _ => none
  | n + 1, Γ, ks, vs => match ks, vs with
    | [], [] => some .nil
    | some k :: ks, v :: vs => (cE n Γ k).bind fun a => (cE n Γ v).bind fun b => (cP n Γ ks vs).map fun cs => .cons a (.cons b cs)
    | _, _ => none
def cO : Nat → Ctx → Option Expr → Option Co
  | 0, _, _ => none
  | n + 1, Γ, e => match e with
    | none => some .no
    | some e => (cB n Γ e).map .yes
def cW : Nat → Ctx → List Expr → Option Ct
  | 0, _, _ => none
  | n + 1, Γ, es => match es with
    | [] => some .no
    | [e] => (cT n Γ e).map .yes
    | _ => none
def cI : Nat → Ctx → Bool → Expr → Expr → Option Ci
  | 0, _, _, _, _ => none
  | n + 1, Γ, b, tg, e => match e with
    | .Call (.Name x p) es [] pos => if glB Γ.sc x = true ∧ es.all notStar = true ∧ x = "range" ∧ es.length = 1 then (cA n Γ b es).map .rg1
      else if glB Γ.sc x = true ∧ es.all notStar = true ∧ x = "range" ∧ es.length = 2 then (cA n Γ b es).map .rg2
      else if glB Γ.sc x = true ∧ es.all notStar = true ∧ x = "zip" ∧ es.length = 2 ∧ isTupE tg = true then (cA n Γ b es).map .zip
      else if glB Γ.sc x = true ∧ es.all notStar = true ∧ x = "enumerate" ∧ es.length = 1 ∧ isTupE tg = true then (cA n Γ b es).map .enum
      else (cE n Γ (.Call (.Name x p) es [] pos)).map .pl
    | e => (match b with
      | true => cB n Γ e
      | false => cE n Γ e).map .pl
def cCall : Nat → Ctx → Str → List Expr → Option C
  | 0, _, _, _ => none
  | n + 1, Γ, x, es => match Γ.fns.lookup x with
    | some (i, b) => (cA n Γ b es).bind fun cs => if es.isEmpty = false then some (match b with
      | true => .callB i cs
      | false => .call i cs) else some (.call i .nil)
    | none => match enArg x es with
      | some a => if glB Γ.sc "enumerate" = true ∧ notStar a = true then (cB n Γ a).map .dEn else none
      | none => match setArg es with
      | some a => if glB Γ.sc "set" = true ∧ notStar a = true then (if x = "len" then (cB n Γ a).map .lenSet else if x = "sorted" then (cB n Γ a).map .sortSet else none) else none
      | none => match biOf x with
      | some b => (cA n Γ true es).bind fun cs => if es.isEmpty = false then some (.bi b cs) else none
      | none => match Γ.cl.nw.lookup x with
      | some (m, fl) => (cA n Γ false es).bind fun cs => if es.isEmpty = false then some (.new x m fl cs) else none
      | none => if x = "isinstance" then (match es with
        | [e, .Name c _] => if glB Γ.sc c = true ∧ okNm c = true then
            (if c = "int" then (cB n Γ e).map fun a => .isi a "int" else if c = "bool" then (cB n Γ e).map fun a => .isi a "bool" else if c = "str" then (cB n Γ e).map fun a => .isi a "str"
              else if c = "list" then (cB n Γ e).map fun a => .isi a "list" else if c = "tuple" then (cB n Γ e).map fun a => .isi a "tuple" else if c = "dict" then (cB n Γ e).map fun a => .isi a "dict" else none) else none
        | _ => none) else none
/-- a test -/
def cT : Nat → Ctx → Expr → Option T
  | 0, _, _ => none
  | n + 1, Γ, e => match e with
    | .UnaryOp .Not a _ => (cT n Γ a).map .not
    | .BoolOp op es _ => cTBool n Γ op es
    | .IfExp t a b _ => (cT n Γ t).bind fun t => (cT n Γ a).bind fun a => (cT n Γ b).map fun b => .ite t a b
    | .Compare a ops bs _ => match ops, bs with
      | [op], [b] => if behindInMarks op b = false then (copOf op).bind fun o => (cB n Γ a).bind fun a => (cB n Γ b).map fun b => .cmp o a b else none
      | [op, op'], [b, c] => if lastMarks [op, op'] [b, c] = false then (copOf op).bind fun o => (copOf op').bind fun o' => (cB n Γ a).bind fun a => (cB n Γ b).bind fun b => (cB n Γ c).map fun c => .chain o o' a b c else none
      | _, _ => none
    | e => if plainT e = true then (cB n Γ e).map .tr else none
def cTBool : Nat → Ctx → BoolOp → List Expr → Option T
  | 0, _, _, _ => none
  | n + 1, Γ, op, es => match es with
    | [] => none
    | [e] => cT n Γ e
    | e :: e2 :: es => (cT n Γ e).bind fun a => (cTBool n Γ op (e2 :: es)).map fun b => match op with
      | .And => .and a b
      | .Or => .or a b
end
/-! ### it is right -/
section
variable {k : Nat} {G : Nat → List D → Out D}
theorem slot_ok {X : Cx} {Γ : Ctx} {W : WX} {x : Str} {i : Nat} (g : GE X Γ W k G) (h : slotOf Γ x = some i) : X.N[i]? = some x ∧ Vis X.env.scope x ∧ (x == ("__debug__" : Str)) = false ∧ (x == ("__classdict__" : Str)) = false := by
  unfold slotOf at h
  split at h
  · rename_i q
    obtain ⟨h1, h2, _⟩ := okNm_ok q.2
    exact ⟨by rw [g.N]; exact ixOf_ok h, by rw [g.sc]; exact visB_ok q.1, h1, h2⟩
  · cases h
theorem gl_ok {X : Cx} {Γ : Ctx} {W : WX} {x : Str} (g : GE X Γ W k G) (h : glB Γ.sc x = true) : Gl X x := by
  unfold Gl Env.kindOf
  rw [g.sc]
  exact glB_ok h
theorem cN_ok {X : Cx} {H0 : Ent} {Γ : Ctx} {W : WX} {x : Str} {p : Pos} {c : C} (g : GE X Γ W k G) (h : cN Γ x = some c) : DE X H0 W .v (.Name x p) (ev G c) := by
  unfold cN at h
  split at h
  · rename_i i e
    cases h
    obtain ⟨h1, h2, h3, h4⟩ := slot_ok g e
    exact de_var h1 h2 h3 h4
  · split at h
    · rename_i q
      obtain ⟨d, h1, rfl⟩ := Option.map_eq_some_iff.mp h
      obtain ⟨u, v, m, r, w⟩ := g.con x d h1
      exact de_glob (gl_ok g q.1) m r w (okNm_ok q.2).1
    · cases h
theorem cK_ok {X : Cx} {H0 : Ent} {W : WX} {kk : Const} {j : Nat} {p : Pos} {c : C} (h : cK kk = some c) : DE X H0 W .v (.Constant kk j p) (ev G c) := by
  cases kk <;> first
    | (cases h; first | exact de_int | exact de_bl | exact de_str | exact de_non)
    | cases h
theorem cTg_ok : ∀ (n : Nat), (∀ (Γ : Ctx) (e : Expr) (t : Tg), cTg n Γ e = some t → ∀ {X : Cx} {H0 : Ent} {W : WX}, GE X Γ W k G → DG X H0 e t) ∧ ∀ (Γ : Ctx) (es : List Expr) (ts : List Tg), cTgs n Γ es = some ts → ∀ {X : Cx} {H0 : Ent} {W : WX}, GE X Γ W k G → DGs X H0 es ts ∧ es.length = ts.length
  | 0 => ⟨fun _ _ _ h => (nomatch h), fun _ _ _ h => (nomatch h)⟩
  | n + 1 => by
    obtain ⟨ih1, ih2⟩ := cTg_ok n
    constructor
    · intro Γ e t h X H0 W g
      unfold cTg at h
      split at h
      · rename_i x p
        split at h
        · rename_i q
          obtain ⟨i, h1, rfl⟩ := Option.map_eq_some_iff.mp h
          refine dg_nm (by rw [g.N]; exact g.nd) (by rw [g.N]; exact ixOf_ok h1) (by rw [g.sc]; exact locB_ok q.1) ?_
          rcases q.2 with q2 | q2
          · exact .inl (g.fn x q2)
          · exact .inr (by rw [g.sc]; exact q2)
        · cases h
      · rename_i es kk p
        split at h
        · rename_i hs
          obtain ⟨ts, h1, rfl⟩ := Option.map_eq_some_iff.mp h
          obtain ⟨a, b⟩ := ih2 Γ es ts h1 g
          have key : ∀ (es : List Expr), es.all notStar = true → (assignEach es X.env).length = es.length ∧ (assignEach es X.env).findIdx? (·.1) = none := by
            intro es
            induction es with
            | nil => exact fun _ => ⟨rfl, rfl⟩
            | cons e es ih =>
              intro hs
              simp only [List.all_cons, Bool.and_eq_true] at hs
              have e1 : assignEach (e :: es) X.env = (false, assign e X.env) :: assignEach es X.env := by
                cases e <;> first | rfl | (simp [notStar] at hs)
              rw [e1]
              refine ⟨by rw [List.length_cons, List.length_cons, (ih hs.2).1], ?_⟩
              rw [List.findIdx?_cons, (ih hs.2).2]
              rfl
          exact dg_tup g.calm a (by rw [(key es hs).1, b]) (key es hs).2
        · cases h
      · cases h
    · intro Γ es ts h X H0 W g
      cases es with
      | nil =>
        cases h
        exact ⟨dgs_nil, rfl⟩
      | cons e es =>
        unfold cTgs at h
        simp only [Option.bind_eq_some_iff] at h
        obtain ⟨t, h1, h⟩ := h
        obtain ⟨ts', h2, rfl⟩ := Option.map_eq_some_iff.mp h
        obtain ⟨a, b⟩ := ih2 Γ es ts' h2 g
        refine ⟨dgs_cons (ih1 Γ e t h1 g) a ?_, by rw [List.length_cons, List.length_cons, b]⟩
        cases e with
        | Starred v p =>
          cases n <;> simp [cTg] at h1
        | _ => rfl
end
end Mp
namespace Mp
open PySem PySem.Spec PyProof.Rows L2
section
variable {k : Nat} {G : Nat → List D → Out D}
theorem ob {α β : Type} {o : Option α} {f : α → Option β} {b : β} (h : o.bind f = some b) : ∃ a, o = some a ∧ f a = some b := Option.bind_eq_some_iff.mp h
theorem om {α β : Type} {o : Option α} {f : α → β} {b : β} (h : o.map f = some b) : ∃ a, o = some a ∧ f a = b := Option.map_eq_some_iff.mp h
/-- all of it, at one depth -/
structure Okn (k : Nat) (G : Nat → List D → Out D) (n : Nat) : Prop where
  e : ∀ (Γ : Ctx) (e : Expr) (c : C), cE n Γ e = some c → ∀ {X : Cx} {H0 : Ent} {W : WX}, GE X Γ W k G → DE X H0 W .v e (ev G c) ∧ (isFr c = true → DE X H0 W .f e (ev G c))
  b : ∀ (Γ : Ctx) (e : Expr) (c : C), cB n Γ e = some c → ∀ {X : Cx} {H0 : Ent} {W : WX}, GE X Γ W k G → DE X H0 W .b e (ev G c)
  bo : ∀ (Γ : Ctx) (op : BoolOp) (es : List Expr) (c : C), cBool n Γ op es = some c → ∀ {X : Cx} {H0 : Ent} {W : WX}, GE X Γ W k G → ∀ pos, DE X H0 W .v (.BoolOp op es pos) (ev G c)
  a : ∀ (Γ : Ctx) (b : Bool) (es : List Expr) (cs : Cs), cA n Γ b es = some cs → ∀ {X : Cx} {H0 : Ent} {W : WX}, GE X Γ W k G → DA X H0 W b es (evs G cs)
  o : ∀ (Γ : Ctx) (e : Option Expr) (c : Co), cO n Γ e = some c → ∀ {X : Cx} {H0 : Ent} {W : WX}, GE X Γ W k G → DO X H0 W e (evO G c)
  w : ∀ (Γ : Ctx) (es : List Expr) (c : Ct), cW n Γ es = some c → ∀ {X : Cx} {H0 : Ent} {W : WX}, GE X Γ W k G → PTsD X H0 W es (evW G c)
  i : ∀ (Γ : Ctx) (b : Bool) (tg e : Expr) (c : Ci), cI n Γ b tg e = some c → ∀ {X : Cx} {H0 : Ent} {W : WX}, GE X Γ W k G → DI X H0 W b tg e (evI G c)
  cl : ∀ (Γ : Ctx) (x : Str) (es : List Expr) (c : C), cCall n Γ x es = some c → ∀ {X : Cx} {H0 : Ent} {W : WX}, GE X Γ W k G → glB Γ.sc x = true → okNm x = true → es.all notStar = true → ∀ p pos, DE X H0 W .v (.Call (.Name x p) es [] pos) (ev G c) ∧ (isFr c = true → DE X H0 W .f (.Call (.Name x p) es [] pos) (ev G c))
  t : ∀ (Γ : Ctx) (e : Expr) (c : T), cT n Γ e = some c → ∀ {X : Cx} {H0 : Ent} {W : WX}, GE X Γ W k G → DT X H0 W e (evT G c)
  tb : ∀ (Γ : Ctx) (op : BoolOp) (es : List Expr) (c : T), cTBool n Γ op es = some c → ∀ {X : Cx} {H0 : Ent} {W : WX}, GE X Γ W k G → ∀ pos, DW X H0 W (.BoolOp op es pos) (evT G c)
  p : ∀ (Γ : Ctx) (ks : List (Option Expr)) (vs : List Expr) (cs : Cs), cP n Γ ks vs = some cs → ∀ {X : Cx} {H0 : Ent} {W : WX}, GE X Γ W k G → PPD X H0 W ks vs (evs G cs)
theorem okn0 : Okn k G 0 where
  e := fun _ _ _ h => (nomatch h)
  b := fun _ _ _ h => (nomatch h)
  bo := fun _ _ _ _ h => (nomatch h)
  a := fun _ _ _ _ h => (nomatch h)
  o := fun _ _ _ h => (nomatch h)
  w := fun _ _ _ h => (nomatch h)
  i := fun _ _ _ _ _ h => (nomatch h)
  cl := fun _ _ _ _ h => (nomatch h)
  t := fun _ _ _ h => (nomatch h)
  tb := fun _ _ _ _ h => (nomatch h)
  p := fun _ _ _ _ h => (nomatch h)
section
variable {n : Nat} {X : Cx} {H0 : Ent} {W : WX} {Γ : Ctx}
theorem DE.vf {e : Expr} {f : Rho → Out D} {c : C} (h : DE X H0 W .v e f) (hc : isFr c = false) : DE X H0 W .v e f ∧ (isFr c = true → DE X H0 W .f e f) := ⟨h, fun z => by rw [hc] at z; cases z⟩
theorem DE.fv {e : Expr} {f : Rho → Out D} {P : Prop} (h : DE X H0 W .f e f) : DE X H0 W .v e f ∧ (P → DE X H0 W .f e f) := ⟨h.toV, fun _ => h⟩
theorem GE.hu (g : GE X Γ W k G) : X.A.units + 64 < cLine := g.room.units
theorem GE.free (g : GE X Γ W k G) {x : Str} (h : x ∈ biNames) : X.mg x = none := g.bi x h
theorem sl3 : SlR X (rSl3 X.K) := sl_tupN.or (sl_list.or sl_str)
/-- the arguments of a call: not none of them -/
theorem okn_cl (ih : Okn k G n) (Γ : Ctx) (x : Str) (es : List Expr) (c : C) (h : cCall (n + 1) Γ x es = some c) (g : GE X Γ W k G) (hgl : glB Γ.sc x = true) (hok : okNm x = true) (hst : es.all notStar = true) (p pos : Pos) :
    DE X H0 W .v (.Call (.Name x p) es [] pos) (ev G c) ∧ (isFr c = true → DE X H0 W .f (.Call (.Name x p) es [] pos) (ev G c)) := by
  obtain ⟨d1, d2, d3⟩ := okNm_ok hok
  have gl := gl_ok g hgl
  unfold cCall at h
  split at h
  · rename_i i b hf
    obtain ⟨cs, h1, h⟩ := ob h
    split at h
    case isFalse =>
      rename_i hne
      cases h
      obtain ⟨m, f, fd, ps, F, ar, hm, hk, hb⟩ := g.fns x i b hf
      cases es with
      | nil => exact DE.vf (de_call0 F ar g.room gl hm hk hb g.tk d1) rfl
      | cons e es => exact absurd rfl hne
    rename_i hne
    cases h
    have ha := ih.a Γ b es cs h1 (H0 := H0) g
    obtain ⟨m, f, fd, ps, F, ar, hm, hk, hb⟩ := g.fns x i b hf
    cases es with
    | nil => cases hne
    | cons e es =>
      simp only [List.all_cons, Bool.and_eq_true] at hst
      cases b with
      | true => exact DE.vf (de_callBr F ar g.room gl hm hk hb g.tk ha d1 (star_cons hst.1 _ _) (star_pl hst.2 _ _)) rfl
      | false => exact DE.vf (de_call F ar g.room gl hm hk hb g.tk ha d1 (star_cons hst.1 _ _) (star_pl hst.2 _ _)) rfl
  · split at h
    · rename_i a hea
      obtain ⟨ex, p2, q2, rfl⟩ := enArg_ok hea
      subst ex
      split at h
      case isFalse => cases h
      rename_i hc
      have gls := gl_ok g hc.1
      obtain ⟨c', h1, rfl⟩ := om h
      exact DE.fv (de_dictEn g.calm gl (g.free (by decide +kernel)) gls (g.free (by decide +kernel)) (ih.b Γ a c' h1 g) (star_cons hc.2 _ _))
    split at h
    · rename_i a hsa
      obtain ⟨p2, q2, rfl⟩ := setArg_ok hsa
      split at h
      case isFalse => cases h
      rename_i hc
      have gls := gl_ok g hc.1
      have na : starEach [a] X.env = (false, eval a X.env) :: starEach [] X.env := star_cons hc.2 _ _
      split at h
      · rename_i e1
        subst e1
        obtain ⟨c', h1, rfl⟩ := om h
        exact DE.vf (de_lenSet g.calm gl (g.free (by decide +kernel)) gls (g.free (by decide +kernel)) (ih.b Γ a c' h1 g) na) rfl
      split at h
      · rename_i e1
        subst e1
        obtain ⟨c', h1, rfl⟩ := om h
        exact DE.fv (de_sortSetG g.calm g.hu gl (g.free (by decide +kernel)) gls (g.free (by decide +kernel)) (ih.b Γ a c' h1 g) na)
      · cases h
    split at h
    · rename_i b hb
      obtain ⟨cs, h1, h⟩ := ob h
      split at h
      case isFalse => cases h
      rename_i hne
      cases h
      have ha := ih.a Γ true es cs h1 (H0 := H0) g
      cases es with
      | nil => cases hne
      | cons e es =>
        obtain rfl := biOf_ok hb
        have q := de_bi (W := W) (p := p) (pos := pos) g.calm g.hu gl (g.free (bi_nm b).1) hst ha
        cases hfr : b.fr with
        | true =>
          rw [hfr] at q
          exact DE.fv q
        | false =>
          rw [hfr] at q
          exact DE.vf q hfr
    · split at h
      · rename_i m fl hnw
        obtain ⟨cs, h1, h⟩ := ob h
        split at h
        case isFalse => cases h
        rename_i hne
        cases h
        have ha := ih.a Γ false es cs h1 (H0 := H0) g
        obtain ⟨C, f, fd, ps, hn, hm, M, F, hb⟩ := g.nw x m fl hnw
        cases es with
        | nil => cases hne
        | cons e es =>
          simp only [List.all_cons, Bool.and_eq_true] at hst
          exact DE.fv (de_new hn M F (g.room.mono g.k2) gl hm hb ha d1 (star_cons hst.1 _ _) (star_pl hst.2 _ _))
      split at h
      case isFalse => cases h
      rename_i hx
      subst hx
      split at h
      case h_2 => cases h
      rename_i e cc cp hea0 hsa0
      split at h
      case isFalse => cases h
      rename_i hc
      obtain ⟨c1, c2, c3⟩ := okNm_ok hc.2
      have glc := gl_ok g hc.1
      simp only [List.all_cons, Bool.and_eq_true] at hst
      have go : ∀ {T : String} {c : C}, (cB n Γ e).map (fun a => C.isi a T) = some c → cc ∈ biNames → bootBuiltins cc = some (.type T) → T ∈ isiC → DE X H0 W .v (.Call (.Name "isinstance" p) [e, .Name cc cp] [] pos) (ev G c) ∧ (isFr c = true → DE X H0 W .f (.Call (.Name "isinstance" p) [e, .Name cc cp] [] pos) (ev G c)) := by
        intro T c h hin hb hT
        obtain ⟨a, h1, rfl⟩ := om h
        exact DE.vf (de_isi gl (g.free (by decide +kernel)) glc (g.free hin) hb c3 c1 hT (ih.b Γ e a h1 g) (by rw [star_cons hst.1, star_cons (e := .Name cc cp) rfl]; rfl) (by rw [star_cons (e := .Name cc cp) rfl]; rfl)) rfl
      split at h
      · rename_i e1; subst e1
        exact go h (by decide +kernel) rfl (by decide)
      split at h
      · rename_i e1; subst e1
        exact go h (by decide +kernel) rfl (by decide)
      split at h
      · rename_i e1; subst e1
        exact go h (by decide +kernel) rfl (by decide)
      split at h
      · rename_i e1; subst e1
        exact go h (by decide +kernel) rfl (by decide)
      split at h
      · rename_i e1; subst e1
        exact go h (by decide +kernel) rfl (by decide)
      split at h
      · rename_i e1; subst e1
        exact go h (by decide +kernel) rfl (by decide)
      cases h
theorem okn_b (ih : Okn k G n) (Γ : Ctx) (e : Expr) (c : C) (h : cB (n + 1) Γ e = some c) (g : GE X Γ W k G) : DE X H0 W .b e (ev G c) := by
  unfold cB at h
  split at h
  · split at h
    · rename_i i hs
      cases h
      obtain ⟨h1, h2, h3, h4⟩ := slot_ok g hs
      exact de_varB h1 h2 h3 h4
    · exact (cN_ok g h).toB
  · exact (ih.e Γ _ c h g).1.toB
theorem okn_bo (ih : Okn k G n) (Γ : Ctx) (op : BoolOp) (es : List Expr) (c : C) (h : cBool (n + 1) Γ op es = some c) (g : GE X Γ W k G) (pos : Pos) : DE X H0 W .v (.BoolOp op es pos) (ev G c) := by
  unfold cBool at h
  split at h
  · cases h
  · rename_i e
    exact de_one (ih.e Γ e c h g).1
  · rename_i e e2 es
    obtain ⟨a, h1, h⟩ := ob h
    obtain ⟨b, h2, rfl⟩ := om h
    cases op with
    | And => exact de_andV (ih.e Γ e a h1 g).1 (ih.bo Γ _ _ b h2 g pos)
    | Or => exact de_orV (ih.e Γ e a h1 g).1 (ih.bo Γ _ _ b h2 g pos)
theorem okn_a (ih : Okn k G n) (Γ : Ctx) (b : Bool) (es : List Expr) (cs : Cs) (h : cA (n + 1) Γ b es = some cs) (g : GE X Γ W k G) : DA X H0 W b es (evs G cs) := by
  unfold cA at h
  split at h
  · cases h
    exact da_nil
  · rename_i e es
    split at h
    case isFalse => cases h
    rename_i hn
    obtain ⟨c, h1, h⟩ := ob h
    obtain ⟨cs', h2, rfl⟩ := om h
    refine da_cons ?_ (ih.a Γ b es cs' h2 g) (star_cons hn _ _)
    cases b with
    | true => exact ih.b Γ e c h1 g
    | false => exact (ih.e Γ e c h1 g).1
theorem okn_p (ih : Okn k G n) (Γ : Ctx) (ks : List (Option Expr)) (vs : List Expr) (cs : Cs) (h : cP (n + 1) Γ ks vs = some cs) (g : GE X Γ W k G) : PPD X H0 W ks vs (evs G cs) := by
  unfold cP at h
  split at h
  · cases h
    exact ppd_nil
  · obtain ⟨a, h1, h⟩ := ob h
    obtain ⟨b, h2, h⟩ := ob h
    obtain ⟨cs', h3, rfl⟩ := om h
    have := ppd_cons (ih.e Γ _ a h1 (H0 := H0) g).1 (ih.e Γ _ b h2 g).1 (ih.p Γ _ _ cs' h3 g)
    have e : evs G (.cons a (.cons b cs')) = fun ρ => (ev G a ρ).bind fun x => (ev G b ρ).bind fun y => (evs G cs' ρ).bind fun r => .ok (x :: y :: r) := by
      funext ρ
      have e1 : ∀ (c : C) (t : Cs), evs G (.cons c t) ρ = (ev G c ρ).bind fun x => (evs G t ρ).bind fun xs => .ok (x :: xs) := fun c t => by rw [evs]
      rw [e1, e1]
      cases ev G a ρ with
      | exc c fs => rfl
      | stuck => rfl
      | ok x =>
        cases ev G b ρ with
        | exc c fs => rfl
        | stuck => rfl
        | ok y => cases evs G cs' ρ <;> rfl
    rw [e]
    exact this
  · cases h
theorem okn_o (ih : Okn k G n) (Γ : Ctx) (e : Option Expr) (c : Co) (h : cO (n + 1) Γ e = some c) (g : GE X Γ W k G) : DO X H0 W e (evO G c) := by
  unfold cO at h
  split at h
  · cases h
    exact do_none
  · obtain ⟨c', h1, rfl⟩ := om h
    exact do_some (ih.b Γ _ c' h1 g)
theorem okn_w (ih : Okn k G n) (Γ : Ctx) (es : List Expr) (c : Ct) (h : cW (n + 1) Γ es = some c) (g : GE X Γ W k G) : PTsD X H0 W es (evW G c) := by
  unfold cW at h
  split at h
  · cases h
    exact dts_nil
  · obtain ⟨c', h1, rfl⟩ := om h
    exact dts_one (ih.t Γ _ c' h1 g)
  · cases h
theorem okn_i (ih : Okn k G n) (Γ : Ctx) (b : Bool) (tg e : Expr) (c : Ci) (h : cI (n + 1) Γ b tg e = some c) (g : GE X Γ W k G) : DI X H0 W b tg e (evI G c) := by
  unfold cI at h
  split at h
  · rename_i x p es pos
    split at h
    · rename_i q
      obtain ⟨q1, q2, rfl, q4⟩ := q
      obtain ⟨cs, h1, rfl⟩ := om h
      have ha := ih.a Γ b es cs h1 (H0 := H0) g
      match es, q4, q2, ha with
      | [a], _, q2, ha =>
        simp only [List.all_cons, Bool.and_eq_true] at q2
        exact di_range1 (gl_ok g q1) (g.free (by decide +kernel)) ha (by rw [star_cons q2.1]; rfl)
    split at h
    · rename_i q
      obtain ⟨q1, q2, rfl, q4⟩ := q
      obtain ⟨cs, h1, rfl⟩ := om h
      have ha := ih.a Γ b es cs h1 (H0 := H0) g
      match es, q4, q2, ha with
      | [a, a2], _, q2, ha =>
        simp only [List.all_cons, Bool.and_eq_true] at q2
        exact di_range2 (gl_ok g q1) (g.free (by decide +kernel)) ha (by rw [star_cons q2.1, star_cons q2.2.1]; rfl) (by rw [star_cons q2.2.1]; rfl)
    split at h
    · rename_i q
      obtain ⟨q1, q2, rfl, q4, q5⟩ := q
      obtain ⟨cs, h1, rfl⟩ := om h
      have ha := ih.a Γ b es cs h1 (H0 := H0) g
      match es, q4, q2, ha with
      | [a, a2], _, q2, ha =>
        simp only [List.all_cons, Bool.and_eq_true] at q2
        cases tg with
        | Tuple elts kk tpos => exact di_zip (gl_ok g q1) (g.free (by decide +kernel)) ha (star_cons q2.1 _ _) (star_pl (by simp only [List.all_cons, Bool.and_eq_true]; exact q2.2) _ _)
        | _ => cases q5
    split at h
    · rename_i q
      obtain ⟨q1, q2, rfl, q4, q5⟩ := q
      obtain ⟨cs, h1, rfl⟩ := om h
      have ha := ih.a Γ b es cs h1 (H0 := H0) g
      match es, q4, q2, ha with
      | [a], _, q2, ha =>
        simp only [List.all_cons, Bool.and_eq_true] at q2
        cases tg with
        | Tuple elts kk tpos => exact di_enum2 (gl_ok g q1) (g.free (by decide +kernel)) ha (by rw [star_cons q2.1]; rfl)
        | _ => cases q5
    obtain ⟨c', h1, rfl⟩ := om h
    have he := (ih.e Γ _ c' h1 (H0 := H0) g).1
    cases b with
    | true => exact di_plain he.toB
    | false => exact di_plain he
  · obtain ⟨c', h1, rfl⟩ := om h
    cases b with
    | true => exact di_plain (ih.b Γ _ c' h1 g)
    | false => exact di_plain (ih.e Γ _ c' h1 g).1
theorem okn_tb (ih : Okn k G n) (Γ : Ctx) (op : BoolOp) (es : List Expr) (c : T) (h : cTBool (n + 1) Γ op es = some c) (g : GE X Γ W k G) (pos : Pos) : DW X H0 W (.BoolOp op es pos) (evT G c) := by
  unfold cTBool at h
  split at h
  · cases h
  · rename_i e
    cases op with
    | And => exact dw_and1 (ih.t Γ e c h g)
    | Or => exact dw_or1 (ih.t Γ e c h g)
  · rename_i e e2 es
    obtain ⟨a, h1, h⟩ := ob h
    obtain ⟨b, h2, rfl⟩ := om h
    cases op with
    | And => exact dw_and (ih.t Γ e a h1 g) (ih.tb Γ _ _ b h2 g pos)
    | Or => exact dw_or (ih.t Γ e a h1 g) (ih.tb Γ _ _ b h2 g pos)
theorem okn_cmp (ih : Okn k G n) (Γ : Ctx) {op : CmpOp} {o : COp} {a b : Expr} {a' b' : C} {pos : Pos} (h1 : behindInMarks op b = false) (h2 : copOf op = some o) (h3 : cB n Γ a = some a') (h4 : cB n Γ b = some b') (g : GE X Γ W k G) :
    DE X H0 W .v (.Compare a [op] [b] pos) (ev G (.cmp o a' b')) ∧ DT X H0 W (.Compare a [op] [b] pos) (evT G (.cmp o a' b')) := by
  obtain ⟨r, r1, r2⟩ := cop_ok g.hu h2
  exact ⟨de_cmp r1 h1 r2 (ih.b Γ a a' h3 g) (ih.b Γ b b' h4 g), dt_cmp r1 h1 r2 (ih.b Γ a a' h3 g) (ih.b Γ b b' h4 g)⟩
theorem okn_chain (ih : Okn k G n) (Γ : Ctx) {op op' : CmpOp} {o o' : COp} {a b c : Expr} {a' b' c' : C} {pos : Pos} (h1 : lastMarks [op, op'] [b, c] = false) (h2 : copOf op = some o) (h2' : copOf op' = some o') (h3 : cB n Γ a = some a') (h4 : cB n Γ b = some b') (h5 : cB n Γ c = some c') (g : GE X Γ W k G) :
    DE X H0 W .v (.Compare a [op, op'] [b, c] pos) (ev G (.chain o o' a' b' c')) ∧ DT X H0 W (.Compare a [op, op'] [b, c] pos) (evT G (.chain o o' a' b' c')) := by
  obtain ⟨r, r1, r2⟩ := cop_ok g.hu h2
  obtain ⟨r', r1', r2'⟩ := cop_ok g.hu h2'
  exact ⟨de_chain r1 r1' h1 r2 r2' (ih.b Γ a a' h3 g) (ih.b Γ b b' h4 g) (ih.b Γ c c' h5 g), dt_chain r1 r1' h1 r2 r2' (ih.b Γ a a' h3 g) (ih.b Γ b b' h4 g) (ih.b Γ c c' h5 g)⟩
theorem okn_t (ih : Okn k G n) (Γ : Ctx) (e : Expr) (c : T) (h : cT (n + 1) Γ e = some c) (g : GE X Γ W k G) : DT X H0 W e (evT G c) := by
  unfold cT at h
  split at h
  · obtain ⟨a, h1, rfl⟩ := om h
    exact dt_not (ih.t Γ _ a h1 g)
  · rename_i op es pos
    exact (ih.tb Γ op es c h g pos).pt
  · obtain ⟨t, h1, h⟩ := ob h
    obtain ⟨a, h2, h⟩ := ob h
    obtain ⟨b, h3, rfl⟩ := om h
    exact dt_ifExp (ih.t Γ _ t h1 g) (ih.t Γ _ a h2 g) (ih.t Γ _ b h3 g)
  · split at h
    · split at h
      case isFalse => cases h
      rename_i hm
      obtain ⟨o, h1, h⟩ := ob h
      obtain ⟨a, h2, h⟩ := ob h
      obtain ⟨b, h3, rfl⟩ := om h
      exact (okn_cmp ih Γ hm h1 h2 h3 g).2
    · split at h
      case isFalse => cases h
      rename_i hm
      obtain ⟨o, h1, h⟩ := ob h
      obtain ⟨o', h1', h⟩ := ob h
      obtain ⟨a, h2, h⟩ := ob h
      obtain ⟨b, h3, h⟩ := ob h
      obtain ⟨c, h4, rfl⟩ := om h
      exact (okn_chain ih Γ hm h1 h1' h2 h3 h4 g).2
    · cases h
  · split at h
    case isFalse => cases h
    rename_i hp
    obtain ⟨a, h1, rfl⟩ := om h
    exact dt_truth (ih.b Γ _ a h1 g) (plainT_ok hp _)
theorem okn_e (ih : Okn k G n) (Γ : Ctx) (e : Expr) (c : C) (h : cE (n + 1) Γ e = some c) (g : GE X Γ W k G) : DE X H0 W .v e (ev G c) ∧ (isFr c = true → DE X H0 W .f e (ev G c)) := by
  unfold cE at h
  split at h
  · have hf : isFr c = false := by
      unfold cK at h
      split at h <;> first | (cases h; rfl) | cases h
    exact DE.vf (cK_ok h) hf
  · have hf : isFr c = false := by
      unfold cN at h
      split at h
      · cases h; rfl
      · split at h
        · obtain ⟨d, _, rfl⟩ := om h; rfl
        · cases h
    exact DE.vf (cN_ok g h) hf
  · obtain ⟨o, h1, h⟩ := ob h
    obtain ⟨a, h2, h⟩ := ob h
    obtain ⟨b, h3, rfl⟩ := om h
    exact DE.vf (de_bop h1 (ih.b Γ _ a h2 g) (ih.b Γ _ b h3 g)) rfl
  · split at h
    · obtain ⟨a, h1, rfl⟩ := om h
      exact DE.vf (de_neg (ih.b Γ _ a h1 g)) rfl
    · obtain ⟨a, h1, rfl⟩ := om h
      exact DE.vf (de_notV (ih.b Γ _ a h1 g)) rfl
    · cases h
  · rename_i op es pos
    split at h
    case isFalse => cases h
    rename_i hlen
    have hf : isFr c = false := by
      cases n with
      | zero => cases h
      | succ n =>
        unfold cBool at h
        split at h
        · cases h
        · simp at hlen
        · obtain ⟨a, h1, h⟩ := ob h
          obtain ⟨b, h2, rfl⟩ := om h
          cases op <;> rfl
    exact DE.vf (ih.bo Γ op es c h g pos) hf
  · obtain ⟨t, h1, h⟩ := ob h
    obtain ⟨a, h2, h⟩ := ob h
    obtain ⟨b, h3, rfl⟩ := om h
    exact DE.vf (de_ifExp (ih.t Γ _ t h1 g) (ih.e Γ _ a h2 g).1 (ih.e Γ _ b h3 g).1) rfl
  · split at h
    · split at h
      case isFalse => cases h
      rename_i hm
      obtain ⟨o, h1, h⟩ := ob h
      obtain ⟨a, h2, h⟩ := ob h
      obtain ⟨b, h3, rfl⟩ := om h
      exact DE.vf (okn_cmp ih Γ hm h1 h2 h3 g).1 rfl
    · split at h
      case isFalse => cases h
      rename_i hm
      obtain ⟨o, h1, h⟩ := ob h
      obtain ⟨o', h1', h⟩ := ob h
      obtain ⟨a, h2, h⟩ := ob h
      obtain ⟨b, h3, h⟩ := ob h
      obtain ⟨c, h4, rfl⟩ := om h
      exact DE.vf (okn_chain ih Γ hm h1 h1' h2 h3 h4 g).1 rfl
    · cases h
  · obtain ⟨cs, h1, rfl⟩ := om h
    exact DE.vf (de_tup (ih.a Γ false _ cs h1 g)) rfl
  · obtain ⟨cs, h1, rfl⟩ := om h
    exact DE.fv (de_lst (ih.a Γ false _ cs h1 g))
  · split at h
    · cases h
      exact DE.fv de_dct0
    · split at h
      case isFalse => cases h
      rename_i hl
      obtain ⟨cs, h1, rfl⟩ := om h
      exact DE.fv (de_disp (ih.p Γ _ _ cs h1 g) (by simp) (by simp only [List.length_cons]; omega))
    · cases h
  · split at h
    · obtain ⟨a, h1, h⟩ := ob h
      obtain ⟨lo, h2, h⟩ := ob h
      obtain ⟨hi, h3, rfl⟩ := om h
      exact DE.vf (de_slice sl3 (ih.b Γ _ a h1 g) (ih.o Γ _ lo h2 g) (ih.o Γ _ hi h3 g)) rfl
    · obtain ⟨a, h1, h⟩ := ob h
      obtain ⟨lo, h2, h⟩ := ob h
      obtain ⟨hi, h3, h⟩ := ob h
      obtain ⟨st, h4, rfl⟩ := om h
      exact DE.vf (de_sliceK (ih.b Γ _ a h1 g) (ih.o Γ _ lo h2 g) (ih.o Γ _ hi h3 g) (ih.o Γ _ st h4 g)) rfl
    · split at h
      case isFalse => cases h
      rename_i hp
      obtain ⟨a, h1, h⟩ := ob h
      obtain ⟨b, h2, rfl⟩ := om h
      exact DE.vf (de_idx g.hu (plainIx_ok hp) (ih.b Γ _ a h1 g) (ih.b Γ _ b h2 g)) rfl
  · split at h
    case h_2 => cases h
    rename_i tg iter ifs as
    split at h
    case isFalse => cases h
    rename_i q
    obtain ⟨rfl, q1, q2⟩ := q
    by_cases hck : ∃ j, ckOf Γ iter = some j
    · obtain ⟨j, hck⟩ := hck
      rw [hck] at h
      obtain ⟨x, p, rfl, hsl⟩ := ckOf_ok hck
      obtain ⟨it, h1, h⟩ := ob h
      cases h1
      obtain ⟨t, h2, h⟩ := ob h
      obtain ⟨w, h3, h⟩ := ob h
      obtain ⟨ce, h4, h⟩ := ob h
      split at h
      case isFalse => cases h
      rename_i hix
      cases h
      have ok := blkB_ok q1
      have hvs : ∀ j ∈ t.ixs, j ∈ (ownOf Γ.N _).map (·.2) := fun j hj => by simpa using List.all_eq_true.mp hix j hj
      obtain ⟨s1, s2, s3, s4⟩ := slot_ok g hsl
      exact DE.fv (de_lcK g.calm (by rw [g.N]; exact g.nd) s1 s2 s3 s4 (by rw [g.N, g.sc]; exact ok) hvs (fun H0 s H C cl fp => (cTg_ok n).1 _ _ _ h2 (g.blk ok.kind s H C cl fp)) (fun H0 s H C cl fp => ih.w _ _ _ h3 (g.blk ok.kind s H C cl fp))
        (fun H0 s H C cl fp => (ih.e _ _ _ h4 (g.blk ok.kind s H C cl fp)).1))
    have hck : ckOf Γ iter = none := by
      cases e : ckOf Γ iter with
      | none => rfl
      | some j => exact absurd ⟨j, e⟩ hck
    rw [hck] at h
    obtain ⟨it, h1, h⟩ := ob h
    obtain ⟨t, h2, h⟩ := ob h
    obtain ⟨w, h3, h⟩ := ob h
    obtain ⟨ce, h4, h⟩ := ob h
    split at h
    case isFalse => cases h
    rename_i hix
    cases h
    have ok := blkB_ok q1
    have hvs : ∀ j ∈ t.ixs, j ∈ (ownOf Γ.N _).map (·.2) := fun j hj => by simpa using List.all_eq_true.mp hix j hj
    refine DE.fv (de_lc g.calm (by rw [g.N]; exact g.nd) (ih.i Γ true tg iter it h1 g) (by rw [g.N, g.sc]; exact ok) hvs (fun s H C cl fp => (cTg_ok n).1 _ _ _ h2 (g.blk ok.kind s H C cl fp)) (fun s H C cl fp => ih.w _ _ _ h3 (g.blk ok.kind s H C cl fp))
      (fun s H C cl fp => (ih.e _ _ _ h4 (g.blk ok.kind s H C cl fp)).1) (notSet_ok q2 _))
  · split at h
    case h_2 => cases h
    rename_i tg iter ifs as
    split at h
    case isFalse => cases h
    rename_i q
    obtain ⟨rfl, q1, q2⟩ := q
    obtain ⟨it, h1, h⟩ := ob h
    obtain ⟨t, h2, h⟩ := ob h
    obtain ⟨w, h3, h⟩ := ob h
    obtain ⟨ck, h4, h⟩ := ob h
    obtain ⟨cv, h5, h⟩ := ob h
    split at h
    case isFalse => cases h
    rename_i hix
    cases h
    have ok := blkB_ok q1
    have hvs : ∀ j ∈ t.ixs, j ∈ (ownOf Γ.N _).map (·.2) := fun j hj => by simpa using List.all_eq_true.mp hix j hj
    refine DE.fv (de_dc g.calm (by rw [g.N]; exact g.nd) (ih.i Γ true tg iter it h1 g) (by rw [g.N, g.sc]; exact ok) hvs (fun s H C cl fp => (cTg_ok n).1 _ _ _ h2 (g.blk ok.kind s H C cl fp)) (fun s H C cl fp => ih.w _ _ _ h3 (g.blk ok.kind s H C cl fp))
      (fun s H C cl fp => (ih.e _ _ _ h4 (g.blk ok.kind s H C cl fp)).1) (fun s H C cl fp => (ih.e _ _ _ h5 (g.blk ok.kind s H C cl fp)).1) (notSet_ok q2 _))
  · split at h
    case h_2 => cases h
    split at h
    · rename_i x p
      split at h
      case isFalse => cases h
      rename_i q
      exact ih.cl Γ x _ c h g q.1 q.2.1 q.2.2 p _
    · split at h
      · rename_i es pos kws0 f0 o0 nm0 apos x0 c i hmt
        split at h
        case isFalse => cases h
        rename_i q
        obtain ⟨q1, q2, q3, q4⟩ := q
        obtain ⟨o, h1, h⟩ := ob h
        obtain ⟨cs, h2, rfl⟩ := om h
        obtain ⟨C, m, f, fd, ps, hn, hc, hm, F, ar, hb⟩ := g.mt _ c i hmt
        have ho := (ih.e Γ _ o h1 (H0 := H0) g).1
        have ha := ih.a Γ false _ cs h2 (H0 := H0) g
        have hmc : MC X o0 nm0 apos es pos := mc_ok q1 q2 q3 q4
        cases es with
        | nil =>
          cases n with
          | zero => cases h2
          | succ n =>
            unfold cA at h2
            cases h2
            exact DE.vf (de_meth0 hn hc hm F ar g.room hb g.tk ho hmc) rfl
        | cons e es =>
          simp only [List.all_cons, Bool.and_eq_true] at q2
          exact DE.vf (de_meth hn hc hm F ar g.room hb g.tk ho ha (star_cons q2.1 _ _) (star_pl q2.2 _ _) hmc) rfl
      split at h
      case h_3 => cases h
      · rename_i kx dx
        split at h
        case isFalse => cases h
        rename_i q
        obtain ⟨rfl, q1, q2, q3, q4⟩ := q
        obtain ⟨o, h1, h⟩ := ob h
        obtain ⟨kk, h2, h⟩ := ob h
        obtain ⟨d, h3, rfl⟩ := om h
        exact DE.vf (de_get2 g.hu (ih.b Γ _ o h1 g) (ih.b Γ _ kk h2 g) (ih.e Γ _ d h3 g).1 (M2_ok q1 q2 q3 q4)) rfl
      · rename_i kx
        split at h
        · rename_i q
          obtain ⟨rfl, q1, q2, q4⟩ := q
          obtain ⟨o, h1, h⟩ := ob h
          obtain ⟨kk, h2, rfl⟩ := om h
          exact DE.vf (de_get1 g.hu (ih.b Γ _ o h1 g) (ih.b Γ _ kk h2 g) (M1_ok q1 q2 q4)) rfl
        split at h
        · rename_i q
          obtain ⟨rfl, q1, q2, q4⟩ := q
          obtain ⟨o, h1, h⟩ := ob h
          obtain ⟨kk, h2, rfl⟩ := om h
          exact DE.fv (de_split (ih.b Γ _ o h1 g) (ih.b Γ _ kk h2 g) (star_cons q2 _ _) (baseOk_ok q1 _ _ _) q4)
        split at h
        · rename_i q
          obtain ⟨rfl, q1, q2, q4⟩ := q
          obtain ⟨o, h1, h⟩ := ob h
          obtain ⟨kk, h2, rfl⟩ := om h
          exact DE.vf (de_join (ih.b Γ _ o h1 g) (ih.b Γ _ kk h2 g) (star_cons q2 _ _) (baseOk_ok q1 _ _ _) q4) rfl
        · cases h
    · cases h
  · split at h
    case isFalse => cases h
    rename_i q
    obtain ⟨cs, h1, h⟩ := ob h
    obtain ⟨o, h2, rfl⟩ := om h
    exact DE.vf (de_fld (g.fl _ cs h1) (ih.b Γ _ o h2 g) (baseOk_ok q _ _ _)) rfl
  · cases h
end
theorem okn (n : Nat) : Okn k G n := by
  induction n with
  | zero => exact okn0
  | succ n ih =>
    exact ⟨fun Γ e c h {X} {H0} {W} g => okn_e ih Γ e c h g, fun Γ e c h {X} {H0} {W} g => okn_b ih Γ e c h g, fun Γ op es c h {X} {H0} {W} g pos => okn_bo ih Γ op es c h g pos, fun Γ b es cs h {X} {H0} {W} g => okn_a ih Γ b es cs h g,
      fun Γ e c h {X} {H0} {W} g => okn_o ih Γ e c h g, fun Γ es c h {X} {H0} {W} g => okn_w ih Γ es c h g, fun Γ b tg e c h {X} {H0} {W} g => okn_i ih Γ b tg e c h g, fun Γ x es c h {X} {H0} {W} g h1 h2 h3 p pos => okn_cl ih Γ x es c h g h1 h2 h3 p pos,
      fun Γ e c h {X} {H0} {W} g => okn_t ih Γ e c h g, fun Γ op es c h {X} {H0} {W} g pos => okn_tb ih Γ op es c h g pos, fun Γ ks vs cs h {X} {H0} {W} g => okn_p ih Γ ks vs cs h g⟩
end
end Mp
namespace Mp
open PySem PySem.Spec PyProof.Rows L2
/-! ## the translation of statements -/
mutual
def vC : C → List Nat
  | .lit _ => []
  | .var i => [i]
  | .varB _ => []
  | .bin _ a b => vC a ++ vC b
  | .neg a => vC a
  | .cmp _ a b => vC a ++ vC b
  | .chain _ _ a b c => vC a ++ (vC b ++ vC c)
  | .not a => vC a
  | .and a b => vC a ++ vC b
  | .or a b => vC a ++ vC b
  | .ite t a b => vT t ++ (vC a ++ vC b)
  | .idx a b => vC a ++ vC b
  | .slice a lo hi => vC a ++ (vO lo ++ vO hi)
  | .sliceK a lo hi st => vC a ++ (vO lo ++ (vO hi ++ vO st))
  | .dEn e => vC e
  | .split o e => vC o ++ vC e
  | .join o e => vC o ++ vC e
  | .tup es => vCs es
  | .lst es => vCs es
  | .dct0 => []
  | .dsp es => vCs es
  | .bi _ es => vCs es
  | .isi a _ => vC a
  | .call _ es => vCs es
  | .callB _ es => vCs es
  | .get2 o k d => vC o ++ (vC k ++ vC d)
  | .fld _ _ o => vC o
  | .meth _ _ _ o es => vC o ++ vCs es
  | .new _ _ _ es => vCs es
  | .lenSet e => vC e
  | .sortSet e => vC e
  | .lc _ it w e _ => vI it ++ (vW w ++ vC e)
  | .dc _ it w k v _ => vI it ++ (vW w ++ (vC k ++ vC v))
def vCs : Cs → List Nat
  | .nil => []
  | .cons c cs => vC c ++ vCs cs
def vO : Co → List Nat
  | .no => []
  | .yes c => vC c
def vI : Ci → List Nat
  | .pl c => vC c
  | .rg1 es => vCs es
  | .rg2 es => vCs es
  | .zip es => vCs es
  | .enum es => vCs es
  | .plK i => [i]
def vW : Ct → List Nat
  | .no => []
  | .yes t => vT t
def vT : T → List Nat
  | .tr c => vC c
  | .cmp _ a b => vC a ++ vC b
  | .chain _ _ a b c => vC a ++ (vC b ++ vC c)
  | .not t => vT t
  | .and a b => vT a ++ vT b
  | .or a b => vT a ++ vT b
  | .ite t a b => vT t ++ (vT a ++ vT b)
end
/-- ahead of it, what it takes over is owned no more -/
def demS (Γ : Ctx) (vs : List Nat) (s : S) : S := match Γ.ow.filter (fun i => vs.contains i) with
  | [] => s
  | is => .dem is s
/-- lent, where it is written to elsewhere (gen.py marks such a slot with 1000) -/
def lenS (Γ : Ctx) (vs : List Nat) (i : Nat) (c : C) : S := match Γ.ow.filter (fun i => vs.contains i) with
  | [] => .set i c
  | is => if is.any (fun j => Γ.ow.contains (1000 + j)) = true then .lend is i c else .dem is (.set i c)
/-- a test is lent what it takes -/
def liteS (Γ : Ctx) (vs : List Nat) (t : T) (a b : Ss) : S := match Γ.ow.filter (fun i => vs.contains i) with
  | [] => .ite t a b
  | is => .lite is t a b
def isComp : Expr → Bool
  | .ListComp .. => true
  | .SetComp .. => true
  | .DictComp .. => true
  | _ => false
def swB (sc : Scope) (x : Str) (p : Pos) : Expr → Bool
  | .ListComp _ _ s pos => ((sc.names.lookup x == some .local) && p.line == pos.line) && !(s.names.any fun y => y.1 == x && (y.2 == .local || y.2 == .cell))
  | .DictComp _ _ _ s pos => ((sc.names.lookup x == some .local) && p.line == pos.line) && !(s.names.any fun y => y.1 == x && (y.2 == .local || y.2 == .cell))
  | _ => false
/-- [], {} -/
def emptyE : Expr → Option (C × D)
  | .List [] _ => some (.lst .nil, .list [])
  | .Dict [] [] _ => some (.dct0, .dict [])
  | _ => none
/-- x, y = [], [], to be written to -/
def parS (Γ : Ctx) (i j : Nat) (a b : Expr) (s : S) : S := match emptyE a, emptyE b with
  | some (c, _), some (c', _) => if Γ.ow.contains i = true ∧ Γ.ow.contains j = true then .ite (.tr (.lit (.bool true))) (.cons (.setF i c) (.cons (.setF j c') .nil)) .nil else s
  | _, _ => s
def noCk (Γ : Ctx) : Expr → Bool
  | .ListComp _ [⟨_, iter, _, _⟩] _ _ => (ckOf Γ iter).isNone
  | _ => true
def isLC : Expr → Bool
  | .ListComp .. => true
  | _ => false
def starred : Expr → Bool
  | .Starred .. => true
  | _ => false
/-- a, b = x, y: stored by names, or not -/
def swpN (sc : Scope) (ts vs : List Expr) : Option (Option (List Str)) :=
  if (!(ts.length == 2 || ts.length == 3) || vs.length != ts.length) = true then some none
  else if (vs.any starred) = true then some none
  else if ((ts.filterMap fun e => match e with
    | .Name id pos => if (sc.names.lookup id == some .local && pos.line == (ts.head?.map (·.pos.line)).getD 0) = true then some id else none
    | _ => none).length != ts.length || ((ts.filterMap fun e => match e with
    | .Name id pos => if (sc.names.lookup id == some .local && pos.line == (ts.head?.map (·.pos.line)).getD 0) = true then some id else none
    | _ => none).eraseDups.length != (ts.filterMap fun e => match e with
    | .Name id pos => if (sc.names.lookup id == some .local && pos.line == (ts.head?.map (·.pos.line)).getD 0) = true then some id else none
    | _ => none).length)) = true then some none
  else if vs.all (foldedForSure 8) = true then some none
  else if vs.all (constantsAlone 8) = true then none
  else some (some (ts.filterMap fun e => match e with
    | .Name id pos => if (sc.names.lookup id == some .local && pos.line == (ts.head?.map (·.pos.line)).getD 0) = true then some id else none
    | _ => none))
theorem blk_fn {env : Env} (hk : env.scope.kind = .function) : env.blockKind = .function := by
  unfold Env.blockKind
  rw [hk]
  rfl
theorem swp_ok {env : Env} {sc : Scope} {ts vs : List Expr} {k k2 : Nat} {p p2 : Pos} {r : Option (List Str)} (hk : env.scope.kind = .function) (hs : env.scope = sc) (h : swpN sc ts vs = some r) : swappedStores [.Tuple ts k p] (.Tuple vs k2 p2) env = pure r := by
  have hb := blk_fn hk
  unfold swpN at h
  unfold swappedStores
  simp only [hb, Env.kindOf, hs]
  split at h
  · rename_i q
    cases h
    have : ((!(ts.length == 2 || ts.length == 3) || vs.length != ts.length) || (ScopeKind.function != ScopeKind.function)) = true := by rw [q]; rfl
    rw [if_pos this]
  rename_i q
  have q0 : ¬ ((!(ts.length == 2 || ts.length == 3) || vs.length != ts.length) || (ScopeKind.function != ScopeKind.function)) = true := by simpa using q
  rw [if_neg q0]
  have e1 : ∀ {α : Type} {a b : α}, (if (vs.any starred) = true then a else b) = if (vs.any fun x => match x with | .Starred _ _ => true | _ => false) = true then a else b := by
    intro α a b
    have : starred = fun x => match x with | .Starred _ _ => true | _ => false := by
      funext x
      cases x <;> rfl
    rw [this]
  refine e1.symm.trans ?_
  by_cases c1 : vs.any starred = true
  · rw [if_pos c1] at h ⊢
    cases h
    rfl
  rw [if_neg c1] at h ⊢
  split at h
  · rename_i c2
    cases h
    exact if_pos c2
  rename_i c2
  refine (if_neg c2).trans ?_
  split at h
  · rename_i c3
    cases h
    exact if_pos c3
  rename_i c3
  refine (if_neg c3).trans ?_
  split at h
  · cases h
  rename_i c4
  cases h
  refine (if_neg c4).trans ?_
  rfl
theorem sw_ok {env : Env} {sc : Scope} {x : Str} {p : Pos} {e : Expr} {l : Nat} (hk : env.scope.kind = .function) (hs : env.scope = sc) (he : ∀ a b c d, e ≠ .SetComp a b c d) : swapsWith e (some (.Name x p)) l env = pure (swB sc x p e) := by
  have hb := blk_fn hk
  cases e with
  | ListComp elt gs s pos =>
    unfold swapsWith swB
    simp only [hb, Env.kindOf, hs, Expr.pos]
    rfl
  | DictComp a b gs s pos =>
    unfold swapsWith swB
    simp only [hb, Env.kindOf, hs, Expr.pos]
    rfl
  | SetComp a b c d => exact absurd rfl (he a b c d)
  | _ => rfl
theorem sw_no {e : Expr} (h : isComp e = false) (t : Option Expr) (l : Nat) (env : Env) : swapsWith e t l env = pure false := by
  cases e <;> first | rfl | cases h
theorem sw_sub {e a b : Expr} {p : Pos} (l : Nat) (env : Env) : swapsWith e (some (.Subscript a b p)) l env = pure false := by
  cases e <;> rfl
theorem sw_tup {e : Expr} {ts : List Expr} {k : Nat} {p : Pos} (l : Nat) (env : Env) : swapsWithSole [.Tuple ts k p] e l env = pure false := by
  cases e <;> rfl
def isTup2 : Expr → Bool
  | .Tuple .. => true
  | _ => false
theorem swp_no {e : Expr} (h : isTup2 e = false) (ts : List Expr) (k : Nat) (p : Pos) (env : Env) : swappedStores [.Tuple ts k p] e env = pure none := by
  cases e <;> first | rfl | cases h
def okT (Γ : Ctx) (x : Str) : Bool := locB Γ.sc x && (Γ.fn x || Γ.sc.names.lookup x == some .local)
/-- a sum, a product: a new list where it is one -/
def cAu (n : Nat) (Γ : Ctx) : Expr → Option C
  | .BinOp a .Add b _ => (cB n Γ a).bind fun a => (cB n Γ b).map fun b => .bin .add a b
  | .BinOp a .Mult b _ => (cB n Γ a).bind fun a => (cB n Γ b).map fun b => .bin .mul a b
  | _ => none
def auS (Γ : Ctx) (i : Nat) (o : Option C) (s : Option S) : Option S := if Γ.ow.contains i = true then (match o with
  | some c => some (demS Γ (vC c) (.setA i c))
  | none => s) else s
def nSet : Expr → Bool
  | .SetComp .. => false
  | _ => true
def isNotSlice : Expr → Bool
  | .Slice .. => false
  | _ => true
def exYes (Γ : Ctx) (x : Str) (b : Bool) : List Str := (Γ.exs.map (·.1)).filter fun y => match Γ.exs.lookup y with
  | some (_, tt) => tt.contains x == b
  | none => false
def isStrC : Expr → Bool
  | .Constant (.str _) _ _ => true
  | _ => false
theorem isStrC_ok {e : Expr} (h : isStrC e = true) : ∃ m j p, e = .Constant (.str m) j p := by
  unfold isStrC at h
  split at h
  · exact ⟨_, _, _, rfl⟩
  · cases h
/-- what a suite says, e.f of the clause's own name n -/
def cSe (sc : Scope) (n : Option Str) : Nat → Expr → Option Se
  | 0, _ => none
  | k + 1, e => match e with
    | .Constant c _ _ => match c with
      | .int i => some (.lit (.int i))
      | .bool b => some (.lit (.bool b))
      | .str x => some (.lit (.str x))
      | .none => some (.lit .none)
      | _ => none
    | .Tuple es _ _ => if es.all notStar = true then (es.mapM (cSe sc n k)).map .tup else none
    | .Attribute (.Name x _) f _ => if n = some x ∧ visB sc x = true ∧ okNm x = true then some (.fld f) else none
    | _ => none
def cSu (Γ : Ctx) (n : Option Str) : List Stmt → Option Su
  | [.Return (some (.Call (.Name f _) [.Name e _, .Name x _] [] _)) _] => if f = "isinstance" ∧ n = some e ∧ glB Γ.sc "isinstance" = true ∧ glB Γ.sc x = true ∧ okNm x = true ∧ (Γ.exs.lookup x).isSome = true ∧ visB Γ.sc e = true ∧ okNm e = true then some (.isi (exYes Γ x true) (exYes Γ x false)) else none
  | [.Return (some e) _] => (cSe Γ.sc n 9 e).map .ret
  | [.Continue _] => some .ct
  | [.Pass _] => some .nx
  | _ => none
def cH (Γ : Ctx) : ExceptHandler → Option Hd
  | .ExceptHandler (some (.Name x _)) none body _ => if glB Γ.sc x = true ∧ okNm x = true ∧ (Γ.exs.lookup x).isSome = true then
      (cSu Γ none body).map fun su => ⟨exYes Γ x true, exYes Γ x false, none, su⟩ else none
  | .ExceptHandler (some (.Name x _)) (some n) body _ => if glB Γ.sc x = true ∧ okNm x = true ∧ (Γ.exs.lookup x).isSome = true ∧ Γ.sc.names.lookup n = some .local then
      (ixOf n Γ.N).bind fun i => (cSu Γ (some n) body).map fun su => ⟨exYes Γ x true, exYes Γ x false, some i, su⟩ else none
  | _ => none
def cHs (Γ : Ctx) : List ExceptHandler → Option (List Hd)
  | [] => some []
  | h :: hs => (cH Γ h).bind fun k => (cHs Γ hs).map fun ks => k :: ks
mutual
def cS : Nat → Ctx → Stmt → Option S
  | 0, _, _ => none
  | n + 1, Γ, st => match st with
    | .Pass _ => some .pass
    | .Break _ => some .brk
    | .Continue _ => some .ct
    | .Raise e cause pos => match e, cause with
      | some (.Call (.Name x p) [a] [] _), none => if isStrC a = true ∧ glB Γ.sc x = true ∧ okNm x = true ∧ (Γ.exs.lookup x).map (·.1) = some true then some (.rais x) else
          if glB Γ.sc x = true ∧ okNm x = true ∧ notStar a = true then (match Γ.cl.xi.lookup x, cE n Γ a with
            | some f, some c => some (demS Γ (vC c) (.raisX x f c))
            | _, _ => some .never) else some .never
      | _, _ => some .never
    | .Try body hds orelse fin _ => match hds, orelse, fin with
      | h :: hds, [], [] => (cSs n Γ body).bind fun b => (cHs Γ (h :: hds)).map fun hs => .try_ b hs
      | _, _, _ => none
    | .Return e _ => match e with
      | none => some .retN
      | some e => (cE n Γ e).map fun c => demS Γ (vC c) (.ret c)
    | .Expr e pos => match e with
      | .Constant (.str _) _ _ => some .pass
      | .Call (.Attribute (.Name x _) m apos) [a] [] cpos => if m = "append" then
          (if notStar a = true ∧ (apos.endLine == cpos.line) = true then (slotOf Γ x).bind fun i => (cE n Γ a).map fun c => demS Γ (vC c) (.app i c) else none)
          else if m = "extend" then
          (if notStar a = true ∧ (apos.endLine == cpos.line) = true then (slotOf Γ x).bind fun i => (cE n Γ a).map fun c => demS Γ (vC c) (.ext i c) else none)
          else (cB n Γ e).map fun c => demS Γ (vC c) (.exp c)
      | e => if isComp e = false then (cB n Γ e).map fun c => demS Γ (vC c) (.exp c) else none
    | .Assign ts e pos => match ts with
      | [.Name x p] => if okT Γ x = true then (ixOf x Γ.N).bind fun i => auS Γ i (cAu n Γ e) <| (cE n Γ e).bind fun c =>
          if swB Γ.sc x p e = false then (if nSet e = true then some (if isFr c = true then demS Γ (vC c) (.setF i c) else lenS Γ (vC c) i c) else none)
          else if isLC e = true ∧ noCk Γ e = true then some (demS Γ (vC c) (.setF i c)) else none
        else none
      | [.Tuple ts k p] => match e with
        | .Tuple vs k2 p2 => (match swpN Γ.sc ts vs with
          | some none => (cTg n Γ (.Tuple ts k p)).bind fun t => (cE n Γ (.Tuple vs k2 p2)).map fun c => demS Γ (vC c) (.asg t c)
          | some (some ns) => (match ts, vs with
            | [.Name x _, .Name y _], [a, b] => if ns = [x, y] ∧ Γ.sc.names.lookup x = some .local ∧ Γ.sc.names.lookup y = some .local then
                (ixOf x Γ.N).bind fun i => (ixOf y Γ.N).bind fun j => (cA n Γ false [a, b]).bind fun cs => if i ≠ j then some (parS Γ i j a b (demS Γ (vCs cs) (.par [.nm i, .nm j] cs))) else none else none
            | [.Name x _, .Name y _, .Name z _], [a, b, c] => if ns = [x, y, z] ∧ Γ.sc.names.lookup x = some .local ∧ Γ.sc.names.lookup y = some .local ∧ Γ.sc.names.lookup z = some .local then
                (ixOf x Γ.N).bind fun i => (ixOf y Γ.N).bind fun j => (ixOf z Γ.N).bind fun l => (cA n Γ false [a, b, c]).bind fun cs => if i ≠ j ∧ i ≠ l ∧ j ≠ l then some (demS Γ (vCs cs) (.par [.nm i, .nm j, .nm l] cs)) else none else none
            | _, _ => none)
          | none => none)
        | e => if isTup2 e = false then (cTg n Γ (.Tuple ts k p)).bind fun t => (cE n Γ e).map fun c => demS Γ (vC c) (.asg t c) else none
      | [.Subscript (.Name x _) ke _] => if isNotSlice ke = true then (slotOf Γ x).bind fun i => (cE n Γ ke).bind fun k => (cE n Γ e).map fun c => demS Γ (vC k ++ vC c) (.put i k c) else none
      | _ => none
    | .AugAssign t op e _ => match t with
      | .Name x _ => if okT Γ x = true then (ixOf x Γ.N).bind fun i => (cE n Γ e).bind fun c => match op with
          | .Add => some (.aug i .Add c)
          | .Sub => some (.aug i .Sub c)
          | .Mult => some (.aug i .Mult c)
          | _ => none
        else none
      | _ => none
    | .If c a b _ => (cT n Γ c).bind fun t => (cSs n Γ a).bind fun a => (cSs n Γ b).map fun b => liteS Γ (vT t) t a b
    | .For tg iter body orelse _ => match orelse with
      | [] => if notSet iter = true then (cTg n Γ tg).bind fun t => (cI n Γ false tg iter).bind fun it => (cSs n Γ body).map fun b => demS Γ (vI it) (.for_ t it b) else none
      | _ => none
    | .While c body orelse _ => match orelse with
      | [] => (cT n Γ c).bind fun t => (cSs n Γ body).map fun b => demS Γ (vT t) (.whl t b)
      | _ => none
    | _ => none
def cSs : Nat → Ctx → List Stmt → Option Ss
  | 0, _, _ => none
  | n + 1, Γ, sts => match sts with
    | [] => some .nil
    | st :: sts => (cS n Γ st).bind fun s => (cSs n Γ sts).map fun ss => .cons s ss
end
def Loc2 (X : Cx) (x : Str) : Prop := L2.Loc X.env.scope x ∧ (X.fn x = true ∨ X.env.scope.names.lookup x = some .local)
section
variable {k : Nat} {G : Nat → List D → Out D} {X : Cx} {H0 : Ent} {W : WX} {Γ : Ctx}
theorem demS_ok {vs : List Nat} {s : S} {st : Stmt} (h : DS X H0 W st (ex G s)) : DS X H0 W st (ex G (demS Γ vs s)) := by
  unfold demS
  split
  · exact h
  · exact DS.dem h _
theorem lenS_ok {vs : List Nat} {i : Nat} {c : C} {x : Str} {e : Expr} {p pos : Pos} (hN : X.N.Nodup) (hi : X.N[i]? = some x) (hx : L2.Loc X.env.scope x) (hf : X.fn x = true ∨ X.env.scope.names.lookup x = some .local) (h : DE X H0 W .v e (ev G c)) (hs : swapsWith e (some (.Name x p)) pos.line X.env = pure false) :
    DS X H0 W (.Assign [.Name x p] e pos) (ex G (lenS Γ vs i c)) := by
  unfold lenS
  split
  · exact ds_set hN hi hx hf h hs
  · split
    · exact ds_lend _ hN hi hx hf h hs
    · exact DS.dem (ds_set hN hi hx hf h hs) _
theorem liteS_ok {vs : List Nat} {t : T} {a b : Ss} {c : Expr} {sa sb : List Stmt} {pos : Pos} (hc : DT X H0 W c (evT G t)) (ha : DSs X H0 W sa (exs G a)) (hb : DSs X H0 W sb (exs G b)) : DS X H0 W (.If c sa sb pos) (ex G (liteS Γ vs t a b)) := by
  unfold liteS
  split
  · exact ds_if hc ha hb
  · exact ds_if (DT.lend hc _) ha hb
theorem okT_ok {x : Str} (g : GE X Γ W k G) (h : okT Γ x = true) : Loc2 X x := by
  unfold okT at h
  simp only [Bool.and_eq_true, Bool.or_eq_true, beq_iff_eq] at h
  refine ⟨by rw [g.sc]; exact locB_ok h.1, ?_⟩
  rcases h.2 with q | q
  · exact .inl (g.fn x q)
  · exact .inr (by rw [g.sc]; exact q)
end
end Mp
namespace Mp
open PySem PySem.Spec PyProof.Rows L2
section
variable {k : Nat} {G : Nat → List D → Out D} {X : Cx} {H0 : Ent} {W : WX} {Γ : Ctx}
theorem set_lc {n : Nat} {elt : Expr} {gs : List Comprehension} {scope : Scope} {lp py spos : Pos} {c : C} {i : Nat} {y : Str} (h : cE n Γ (.ListComp elt gs scope lp) = some c) (hk : noCk Γ (.ListComp elt gs scope lp) = true) (g : GE X Γ W k G) (hy : X.N[i]? = some y) (hyl : X.env.scope.names.lookup y = some .local)
    (hsw : swapsWith (.ListComp elt gs scope lp) (some (.Name y py)) spos.line X.env = pure true) : DS X H0 W (.Assign [.Name y py] (.ListComp elt gs scope lp) spos) fun ρ => (ev G c ρ).st ρ (setF i ρ) := by
  cases n with
  | zero => cases h
  | succ n =>
  have ih : Okn k G n := okn n
  simp only [cE] at h
  split at h
  case h_2 => cases h
  rename_i tg iter ifs as
  split at h
  case isFalse => cases h
  rename_i q
  obtain ⟨rfl, q1, q2⟩ := q
  have hk : ckOf Γ iter = none := by simpa [noCk] using hk
  rw [hk] at h
  obtain ⟨it, h1, h⟩ := ob h
  obtain ⟨t, h2, h⟩ := ob h
  obtain ⟨w, h3, h⟩ := ob h
  obtain ⟨ce, h4, h⟩ := ob h
  split at h
  case isFalse => cases h
  rename_i hix
  cases h
  have ok := blkB_ok q1
  have hvs : ∀ j ∈ t.ixs, j ∈ (ownOf Γ.N scope.names).map (·.2) := fun j hj => by simpa using List.all_eq_true.mp hix j hj
  exact ds_lc g.calm (by rw [g.N]; exact g.nd) hy hyl hsw (ih.i Γ true tg iter it h1 g) (by rw [g.N, g.sc]; exact ok) hvs (fun s H C cl fp => (cTg_ok n).1 _ _ _ h2 (g.blk ok.kind s H C cl fp)) (fun s H C cl fp => ih.w _ _ _ h3 (g.blk ok.kind s H C cl fp))
    (fun s H C cl fp => (ih.e _ _ _ h4 (g.blk ok.kind s H C cl fp)).1) (notSet_ok q2 _)
theorem ix_ok {x : Str} {i : Nat} (g : GE X Γ W k G) (h : ixOf x Γ.N = some i) : X.N[i]? = some x := by
  rw [g.N]
  exact ixOf_ok h
theorem asg1 {tg : Expr} (h : notStar tg = true) (env : Env) : (assignEach [tg] env).map (·.2) = [assign tg env] := by
  cases tg <;> first | rfl | cases h
theorem lst0 : lstD [] = .ok (.list []) := by
  unfold lstD
  exact if_pos (Nat.zero_le _)
theorem emptyE_ok {a : Expr} {c : C} {d : D} (h : emptyE a = some (c, d)) : emptyD d = true ∧ notStar a = true ∧ (∀ ρ, ev G c ρ = .ok d) ∧ ∀ {X : Cx} {H0 : Ent} {W : WX}, DE X H0 W .f a fun _ => .ok d := by
  unfold emptyE at h
  split at h
  · cases h
    exact ⟨rfl, rfl, fun ρ => lst0, fun {X} {H0} {W} => by
      have := de_lst (X := X) (H0 := H0) (W := W) (pos := by assumption) (da_nil (b := false))
      have e : (fun _ : Rho => (Out.ok ([] : List D)).bind lstD) = fun _ => Out.ok (PyData.list []) := by
        funext ρ
        exact lst0
      rw [e] at this
      exact this⟩
  · cases h
    exact ⟨rfl, rfl, fun ρ => rfl, fun {X} {H0} {W} => de_dct0⟩
  · cases h
theorem parS_ok {i j : Nat} {a b : Expr} {s : S} {st : Stmt} (h : DS X H0 W st (ex G s))
    (h2 : ∀ d e, emptyD d = true → emptyD e = true → DE X H0 W .f a (fun _ => .ok d) → DE X H0 W .f b (fun _ => .ok e) → notStar a = true → notStar b = true → DS X H0 W st fun ρ => .nx ((ρ.set i (some (true, d))).set j (some (true, e)))) : DS X H0 W st (ex G (parS Γ i j a b s)) := by
  unfold parS
  split
  · rename_i c d c' e ea eb
    split
    · obtain ⟨a1, a2, a3, a4⟩ := emptyE_ok (G := G) ea
      obtain ⟨b1, b2, b3, b4⟩ := emptyE_ok (G := G) eb
      have := h2 d e a1 b1 a4 b4 a2 b2
      have he : (ex G (.ite (.tr (.lit (.bool true))) (.cons (.setF i c) (.cons (.setF j c') .nil)) .nil)) = fun ρ => SOut.nx ((ρ.set i (some (true, d))).set j (some (true, e))) := by
        funext ρ
        show ((ev G c ρ).st ρ (setF i ρ)).seq (fun ρ => ((ev G c' ρ).st ρ (setF j ρ)).seq fun ρ => .nx ρ) = _
        rw [a3]
        show ((ev G c' (ρ.set i (some (true, d)))).st (ρ.set i (some (true, d))) (setF j (ρ.set i (some (true, d))))).seq (fun ρ => .nx ρ) = _
        rw [b3]
        rfl
      rw [he]
      exact this
    · exact h
  · exact h
theorem auS_ok {i : Nat} {o : Option C} {s : Option S} {c : S} (h : auS Γ i o s = some c) : s = some c ∨ ∃ c', o = some c' ∧ c = demS Γ (vC c') (.setA i c') := by
  unfold auS at h
  split at h
  · split at h
    · cases h
      exact .inr ⟨_, rfl, rfl⟩
    · exact .inl h
  · exact .inl h
theorem cAu_ok {n i : Nat} {e : Expr} {c : C} {x : Str} {p pos : Pos} (oe : Okn k G n) (g : GE X Γ W k G) (h : cAu n Γ e = some c) (nd : X.N.Nodup) (hi : X.N[i]? = some x) (hx : L2.Loc X.env.scope x) (hf : X.fn x = true ∨ X.env.scope.names.lookup x = some .local) :
    DS X H0 W (.Assign [.Name x p] e pos) (ex G (.setA i c)) := by
  unfold cAu at h
  split at h
  · obtain ⟨a, h1, h⟩ := ob h
    obtain ⟨b, h2, rfl⟩ := om h
    have ha := oe.b Γ _ a h1 (H0 := H0) g
    have hb := oe.b Γ _ b h2 (H0 := H0) g
    exact ds_new (u := ev G a) (v := ev G b) addLD_of nd hi hx hf (de_add ha hb) (de_catF ha hb) (sw_no rfl _ _ _)
  · obtain ⟨a, h1, h⟩ := ob h
    obtain ⟨b, h2, rfl⟩ := om h
    have ha := oe.b Γ _ a h1 (H0 := H0) g
    have hb := oe.b Γ _ b h2 (H0 := H0) g
    exact ds_new (u := ev G a) (v := ev G b) repLD_of nd hi hx hf (de_mul ha hb) (de_repF ha hb) (sw_no rfl _ _ _)
  · cases h
/-- the frame -/
structure Fr (X : Cx) : Prop where
  p : PassesOwn (model X.prog X.w) X.A X.env X.xe
  st : X.stack = X.env :: X.outer
  fr : X.env.frame = some X.env.locals
theorem mapM_ses {sc : Scope} {n : Option Str} {k : Nat} {X : Cx} {H0 : Ent} {o : Option Nat} (ih : ∀ (e : Expr) (se : Se), cSe sc n k e = some se → SeOk X H0 o e se) : ∀ {es : List Expr} {ss : List Se}, es.mapM (cSe sc n k) = some ss → es.all notStar = true → SesOk X H0 o es ss
  | [], ss, h, _ => by
    cases h
    exact ses_nil
  | e :: es, ss, h, hn => by
    rw [List.mapM_cons] at h
    obtain ⟨a, h1, h⟩ := ob h
    obtain ⟨b, h2, h⟩ := ob h
    cases h
    simp only [List.all_cons, Bool.and_eq_true] at hn
    exact ses_cons (ih e a h1) (mapM_ses ih h2 hn.2) fun env => by
      cases e <;> first | rfl | cases hn.1
theorem cSe_ok {sc : Scope} {n : Option Str} {X : Cx} {H0 : Ent} {o : Option Nat} (hsc : X.env.scope = sc) (hno : ∀ n', n = some n' → ∃ i, o = some i ∧ X.N[i]? = some n') : ∀ (k : Nat) (e : Expr) (se : Se), cSe sc n k e = some se → SeOk X H0 o e se
  | 0, _, _, h => by cases h
  | k + 1, e, se, h => by
    unfold cSe at h
    split at h
    · split at h
      · cases h; exact se_int
      · cases h; exact se_bl
      · cases h; exact se_str
      · cases h; exact se_non
      · cases h
    · split at h
      case isFalse => cases h
      rename_i hn
      obtain ⟨ss, h1, rfl⟩ := om h
      exact se_tup (mapM_ses (cSe_ok hsc hno k) h1 hn)
    · split at h
      case isFalse => cases h
      rename_i q
      obtain ⟨q1, q2, q3⟩ := q
      cases h
      obtain ⟨i, rfl, hi⟩ := hno _ q1
      obtain ⟨d1, d2, _⟩ := okNm_ok q3
      exact se_fld hi (by rw [hsc]; exact visB_ok q2) d1 d2
    · cases h
theorem ex_key {X : Cx} {Γ : Ctx} {W : WX} {kk : Nat} {G : Nat → List D → Out D} (g : GE X Γ W kk G) {x : Str} (hx : (Γ.exs.lookup x).isSome = true) : ∃ C, X.mg x = some (.ref C) ∧ ∀ b, ∀ y ∈ exYes Γ x b, ∃ C', X.mg y = some (.ref C') ∧ PySem.W.exmOne X.K (.ref C') (.ref C) = some b ∧ PySem.W.kitOne X.K (.ref C') (.ref C) = some b ∧ isEB X.K C' = true := by
  obtain ⟨⟨pl, ss⟩, hl⟩ := Option.isSome_iff_exists.mp hx
  obtain ⟨C, m1, _, m2⟩ := g.exs x pl ss hl
  refine ⟨C, m1, fun b y hy => ?_⟩
  unfold exYes at hy
  obtain ⟨_, h2⟩ := List.mem_filter.mp hy
  split at h2
  · rename_i pl' tt e
    obtain ⟨C', m3, m4, m5, m6⟩ := m2 y _ tt e
    have e2 := beq_iff_eq.mp h2
    exact ⟨_, m3, by rw [m4, e2], by rw [m5, e2], m6⟩
  · cases h2
theorem cSu_ok {Γ : Ctx} {n : Option Str} {X : Cx} {H0 : Ent} {W : WX} {kk : Nat} {G : Nat → List D → Out D} {o : Option Nat} {b : List Stmt} {su : Su} (g : GE X Γ W kk G) (hno : ∀ n', n = some n' → ∃ i, o = some i ∧ X.N[i]? = some n') (h : cSu Γ n b = some su) : SuOk X H0 o b su ∧ ∃ b0 r, b = b0 :: r := by
  unfold cSu at h
  split at h
  · split at h
    case isFalse => cases h
    rename_i q
    obtain ⟨rfl, q1, q2, q3, q4, q5, q6, q7⟩ := q
    cases h
    obtain ⟨i, rfl, hi⟩ := hno _ q1
    obtain ⟨C, m1, m2⟩ := ex_key g q5
    obtain ⟨d1, d2, _⟩ := okNm_ok q7
    refine ⟨su_isi hi (by rw [g.sc]; exact visB_ok q6) d1 d2 (gl_ok g q2) (g.bi _ (by decide +kernel)) (gl_ok g q3) m1 (okNm_ok q4).1 ⟨fun y hy => ?_, fun y hy => ?_⟩, _, _, rfl⟩
    · obtain ⟨D, e1, _, e2, e3⟩ := m2 true y hy
      exact ⟨D, e1, isEB_ok e3, e2⟩
    · obtain ⟨D, e1, _, e2, e3⟩ := m2 false y hy
      exact ⟨D, e1, isEB_ok e3, e2⟩
  · obtain ⟨se, h1, rfl⟩ := om h
    exact ⟨su_ret (cSe_ok g.sc hno 9 _ se h1), _, _, rfl⟩
  · cases h
    exact ⟨su_ct, _, _, rfl⟩
  · cases h
    exact ⟨su_nx, _, _, rfl⟩
  · cases h
theorem cH_ok {X : Cx} {H0 : Ent} {W : WX} {Γ : Ctx} {h : ExceptHandler} {k : Hd} {kk : Nat} {G : Nat → List D → Out D} (g : GE X Γ W kk G) (e : cH Γ h = some k) : HdOk X H0 h k := by
  have key : ∀ {x : Str}, (Γ.exs.lookup x).isSome = true → ∃ C, X.mg x = some (.ref C) ∧ ∀ b, ∀ y ∈ exYes Γ x b, ∃ C', X.mg y = some C' ∧ PySem.W.exmOne X.K C' (.ref C) = some b := by
    intro x hx
    obtain ⟨C, m1, m2⟩ := ex_key g hx
    refine ⟨C, m1, fun b y hy => ?_⟩
    obtain ⟨C', e1, e2, _⟩ := m2 b y hy
    exact ⟨_, e1, e2⟩
  unfold cH at e
  split at e
  · split at e
    case isFalse => cases e
    rename_i q
    obtain ⟨su, h1, rfl⟩ := om e
    obtain ⟨C, m1, m2⟩ := key q.2.2
    obtain ⟨h2, b0, r, rfl⟩ := cSu_ok (X := X) (H0 := H0) (o := none) g (fun n' z => by cases z) h1
    exact .only ⟨gl_ok g q.1, (okNm_ok q.2.1).1, .inl m1⟩ ⟨m2 true, m2 false⟩ h2
  · split at e
    case isFalse => cases e
    rename_i q
    obtain ⟨i, h0, e⟩ := ob e
    obtain ⟨su, h1, rfl⟩ := om e
    obtain ⟨C, m1, m2⟩ := key q.2.2.1
    obtain ⟨h2, b0, r, rfl⟩ := cSu_ok (X := X) (H0 := H0) (o := some i) g (fun n' z => by
      cases z
      exact ⟨i, rfl, by rw [g.N]; exact ixOf_ok h0⟩) h1
    refine .as_ (by rw [g.N]; exact g.nd) (by rw [g.N]; exact ixOf_ok h0) ?_ ⟨gl_ok g q.1, (okNm_ok q.2.1).1, .inl m1⟩ ⟨m2 true, m2 false⟩ h2
    unfold Env.kindOf
    rw [g.sc]
    exact q.2.2.2
  · cases e
theorem cHs_ok {X : Cx} {H0 : Ent} {W : WX} {Γ : Ctx} {kk : Nat} {G : Nat → List D → Out D} (g : GE X Γ W kk G) : ∀ {hs : List ExceptHandler} {ks : List Hd}, cHs Γ hs = some ks → HdsOk2 X H0 hs ks
  | [], ks, e => by
    cases e
    exact .nil
  | h :: hs, ks, e => by
    unfold cHs at e
    obtain ⟨k, h1, e⟩ := ob e
    obtain ⟨l, h2, rfl⟩ := om e
    exact .cons (cH_ok g h1) (cHs_ok g h2)
/-- a statement, statements -/
structure Oks (k : Nat) (G : Nat → List D → Out D) (n : Nat) : Prop where
  s : ∀ (Γ : Ctx) (st : Stmt) (c : S), cS n Γ st = some c → ∀ {X : Cx} {H0 : Ent} {W : WX}, GE X Γ W k G → Fr X → DS X H0 W st (ex G c)
  ss : ∀ (Γ : Ctx) (sts : List Stmt) (c : Ss), cSs n Γ sts = some c → ∀ {X : Cx} {H0 : Ent} {W : WX}, GE X Γ W k G → Fr X → DSs X H0 W sts (exs G c)
theorem oks_ss {n : Nat} (ih : Oks k G n) (Γ : Ctx) (sts : List Stmt) (c : Ss) (h : cSs (n + 1) Γ sts = some c) (g : GE X Γ W k G) (hp : Fr X) : DSs X H0 W sts (exs G c) := by
  unfold cSs at h
  split at h
  · cases h
    exact dss_nil
  · obtain ⟨s, h1, h⟩ := ob h
    obtain ⟨ss, h2, rfl⟩ := om h
    exact dss_cons (ih.s Γ _ s h1 g hp) (ih.ss Γ _ ss h2 g hp)
theorem oks_s {n : Nat} (ih : Oks k G n) (Γ : Ctx) (st : Stmt) (c : S) (h : cS (n + 1) Γ st = some c) (g : GE X Γ W k G) (hp : Fr X) : DS X H0 W st (ex G c) := by
  have oe : Okn k G n := okn n
  have nd : X.N.Nodup := by rw [g.N]; exact g.nd
  have kd : X.env.scope.kind = .function := by rw [g.sc]; exact g.kd
  unfold cS at h
  split at h
  · cases h
    exact ds_pass
  · cases h
    exact ds_break
  · cases h
    exact ds_continue
  · split at h
    · split at h
      · rename_i q
        cases h
        obtain ⟨q0, q1, q2, q3⟩ := q
        obtain ⟨⟨pl, ss⟩, hl, e⟩ := Option.map_eq_some_iff.mp q3
        obtain ⟨C, m1, m2, _⟩ := g.exs _ pl ss hl
        obtain ⟨m, j, p2, rfl⟩ := isStrC_ok q0
        exact ds_raise g.calm g.tk m1 (m2 e) (gl_ok g q1) (okNm_ok q2).1
      split at h
      · rename_i q
        obtain ⟨q1, q2, q3⟩ := q
        split at h
        · rename_i f c' hf hc'
          cases h
          obtain ⟨C, fI, fd, ps, T⟩ := g.xi _ _ hf
          exact demS_ok (ds_raiseX g.calm g.tk (g.room.mono g.k2) passL T (oe.e Γ _ c' hc' g).1 (gl_ok g q1) (okNm_ok q2).1 (star_cons q3 _ _))
        · cases h
          exact ds_never
      · cases h
        exact ds_never
    · cases h
      exact ds_never
  · split at h
    case h_2 => cases h
    obtain ⟨b, h1, h⟩ := ob h
    obtain ⟨hs, h2, rfl⟩ := om h
    exact ds_try hp.st hp.fr g.tk (fun W' pn xe tk' hp' => ih.ss Γ _ b h1 (g.tr tk') ⟨hp', hp.st, hp.fr⟩) (cHs_ok g h2)
  · split at h
    · cases h
      exact ds_retN
    · obtain ⟨c', h1, rfl⟩ := om h
      exact demS_ok (ds_ret (oe.e Γ _ c' h1 g).1)
  · split at h
    · cases h
      exact ds_doc
    · rename_i x xp m apos a cpos
      split at h
      · rename_i hm
        subst hm
        split at h
        case isFalse => cases h
        rename_i q
        obtain ⟨i, h1, h⟩ := ob h
        obtain ⟨c', h2, rfl⟩ := om h
        obtain ⟨s1, s2, s3, s4⟩ := slot_ok g h1
        exact demS_ok (ds_append s1 s2 s3 s4 (oe.e Γ a c' h2 g).1 (by rw [star_cons q.1]; rfl) q.2)
      split at h
      · rename_i hm
        subst hm
        split at h
        case isFalse => cases h
        rename_i q
        obtain ⟨i, h1, h⟩ := ob h
        obtain ⟨c', h2, rfl⟩ := om h
        obtain ⟨s1, s2, s3, s4⟩ := slot_ok g h1
        exact demS_ok (ds_extend s1 s2 s3 s4 (oe.e Γ a c' h2 g).1 (by rw [star_cons q.1]; rfl) q.2)
      · obtain ⟨c', h1, rfl⟩ := om h
        exact demS_ok (ds_expr (oe.b Γ _ c' h1 g) (sw_no rfl _ _ _))
    · split at h
      case isFalse => cases h
      rename_i hc
      obtain ⟨c', h1, rfl⟩ := om h
      exact demS_ok (ds_expr (oe.b Γ _ c' h1 g) (sw_no hc _ _ _))
  · rename_i ts e pos
    split at h
    · rename_i x p
      split at h
      case isFalse => cases h
      rename_i hok
      obtain ⟨i, h1, h⟩ := ob h
      obtain ⟨lx, fx⟩ := okT_ok g hok
      have hi := ix_ok g h1
      rcases auS_ok h with h | ⟨c', hc, rfl⟩
      case inr => exact demS_ok (cAu_ok oe g hc nd hi lx fx)
      obtain ⟨c', h2, h⟩ := ob h
      split at h
      · rename_i hsw
        split at h
        case isFalse => cases h
        rename_i hns
        cases h
        have hno : swapsWith e (some (.Name x p)) pos.line X.env = pure false := by
          rw [sw_ok (sc := Γ.sc) kd g.sc (fun a b c d z => by rw [z] at hns; cases hns), hsw]
        have he := oe.e Γ e c' h2 (H0 := H0) g
        split
        · rename_i hfr
          exact demS_ok (ds_setF nd hi lx fx (he.2 hfr) hno)
        · exact lenS_ok nd hi lx fx he.1 hno
      · rename_i hsw
        split at h
        case isFalse => cases h
        rename_i hlc
        cases h
        have hsw : swB Γ.sc x p e = true := by simpa using hsw
        cases e with
        | ListComp elt gs scope lp =>
          have hyes : swapsWith (.ListComp elt gs scope lp) (some (.Name x p)) pos.line X.env = pure true := by
            rw [sw_ok (sc := Γ.sc) kd g.sc (fun a b c d z => by cases z), hsw]
          have hl : X.env.scope.names.lookup x = some .local := by
            rw [g.sc]
            unfold swB at hsw
            simp only [Bool.and_eq_true, beq_iff_eq] at hsw
            exact hsw.1.1
          exact demS_ok (set_lc h2 hlc.2 g hi hl hyes)
        | _ => cases hlc.1
    · rename_i tes tk tp
      split at h
      · rename_i vs k2 p2
        split at h
        · rename_i hsp
          obtain ⟨t, h1, h⟩ := ob h
          obtain ⟨c', h2, rfl⟩ := om h
          exact demS_ok (ds_asgT (oe.e Γ _ c' h2 g).1 ((cTg_ok n).1 Γ _ t h1 g) (sw_tup _ _) (swp_ok kd g.sc hsp) (asg1 rfl _))
        · rename_i ns hsp
          have hw := fun k p k2 p2 => swp_ok (env := X.env) (k := k) (k2 := k2) (p := p) (p2 := p2) kd g.sc hsp
          split at h
          · rename_i x px y py a b
            split at h
            case isFalse => cases h
            rename_i q
            obtain ⟨rfl, l1, l2⟩ := q
            obtain ⟨i, h1, h⟩ := ob h
            obtain ⟨j, h2, h⟩ := ob h
            obtain ⟨cs, h3, h⟩ := ob h
            split at h
            case isFalse => cases h
            rename_i hij
            cases h
            refine parS_ok (demS_ok (ds_par2 g.calm nd (ix_ok g h1) (ix_ok g h2) hij (by rw [g.sc]; exact l1) (by rw [g.sc]; exact l2) (oe.a Γ false _ cs h3 g) (hw _ _ _ _) (sw_tup _ _))) fun d e hd he fa fb n1 n2 => ?_
            exact ds_par00 g.calm nd (ix_ok g h1) (ix_ok g h2) hij (by rw [g.sc]; exact l1) (by rw [g.sc]; exact l2) hd he fa fb (star_cons n1 _ _) (star_cons n2 _ _) (hw _ _ _ _) (sw_tup _ _)
          · rename_i x px y py z pz a b d
            split at h
            case isFalse => cases h
            rename_i q
            obtain ⟨rfl, l1, l2, l3⟩ := q
            obtain ⟨i, h1, h⟩ := ob h
            obtain ⟨j, h2, h⟩ := ob h
            obtain ⟨l, h3, h⟩ := ob h
            obtain ⟨cs, h4, h⟩ := ob h
            split at h
            case isFalse => cases h
            rename_i hij
            cases h
            exact demS_ok (ds_par3 g.calm nd (ix_ok g h1) (ix_ok g h2) (ix_ok g h3) hij.1 hij.2.1 hij.2.2 (by rw [g.sc]; exact l1) (by rw [g.sc]; exact l2) (by rw [g.sc]; exact l3) (oe.a Γ false _ cs h4 g) (hw _ _ _ _) (sw_tup _ _))
          · cases h
        · cases h
      · split at h
        case isFalse => cases h
        rename_i ht
        obtain ⟨t, h1, h⟩ := ob h
        obtain ⟨c', h2, rfl⟩ := om h
        exact demS_ok (ds_asgT (oe.e Γ _ c' h2 g).1 ((cTg_ok n).1 Γ _ t h1 g) (sw_tup _ _) (swp_no ht _ _ _ _) (asg1 rfl _))
    · rename_i x xp ke sp
      split at h
      case isFalse => cases h
      rename_i hns
      obtain ⟨i, h1, h⟩ := ob h
      obtain ⟨ck, h2, h⟩ := ob h
      obtain ⟨cv, h3, rfl⟩ := om h
      obtain ⟨s1, s2, s3, s4⟩ := slot_ok g h1
      refine demS_ok (ds_put g.hu s1 s2 s3 s4 (oe.e Γ _ ck h2 g).1 (oe.e Γ _ cv h3 g).1 (sw_sub _ _) fun v => ?_)
      cases ke <;> first | rfl | cases hns
    · cases h
  · split at h
    case h_2 => cases h
    rename_i x xp
    split at h
    case isFalse => cases h
    rename_i hok
    obtain ⟨i, h1, h⟩ := ob h
    obtain ⟨c', h2, h⟩ := ob h
    obtain ⟨lx, fx⟩ := okT_ok g hok
    split at h
    · cases h
      exact ds_aug ip_add (fun x y => by cases x <;> cases y <;> rfl) nd (ix_ok g h1) lx fx (oe.e Γ _ c' h2 g).1
    · cases h
      exact ds_aug ip_sub (fun x y => by cases x <;> cases y <;> rfl) nd (ix_ok g h1) lx fx (oe.e Γ _ c' h2 g).1
    · cases h
      exact ds_augM nd (ix_ok g h1) lx fx (oe.e Γ _ c' h2 g).1
    · cases h
  · obtain ⟨t, h1, h⟩ := ob h
    obtain ⟨a, h2, h⟩ := ob h
    obtain ⟨b, h3, rfl⟩ := om h
    exact liteS_ok (oe.t Γ _ t h1 g) (ih.ss Γ _ a h2 g hp) (ih.ss Γ _ b h3 g hp)
  · split at h
    case h_2 => cases h
    split at h
    case isFalse => cases h
    rename_i hns
    obtain ⟨t, h1, h⟩ := ob h
    obtain ⟨it, h2, h⟩ := ob h
    obtain ⟨b, h3, rfl⟩ := om h
    exact demS_ok (ds_for hp.p g.calm (oe.i Γ false _ _ it h2 g) ((cTg_ok n).1 Γ _ t h1 g) (ih.ss Γ _ b h3 g hp) (notSet_ok hns _))
  · split at h
    case h_2 => cases h
    obtain ⟨t, h1, h⟩ := ob h
    obtain ⟨b, h2, rfl⟩ := om h
    exact demS_ok (DS.any (fun m => ds_while hp.p (oe.t Γ _ t h1 g) (ih.ss Γ _ b h2 g hp) m) fun ρ => whileR_or ρ)
  · cases h
theorem oks (n : Nat) : Oks k G n := by
  induction n with
  | zero => exact ⟨fun _ _ _ h => (nomatch h), fun _ _ _ h => (nomatch h)⟩
  | succ n ih => exact ⟨fun Γ st c h {X} {H0} {W} g hp => oks_s ih Γ st c h g hp, fun Γ sts c h {X} {H0} {W} g hp => oks_ss ih Γ sts c h g hp⟩
end
end Mp
namespace Mp
open PySem PySem.Spec PyProof.Rows L2
/-! ## parameters -/
theorem zip_look {ps : List Str} {us : List Value} (hl : us.length = ps.length) {n : Str} (h : n ∈ ps) : ((ps.zip us).lookup n).isNone = false := by
  induction ps generalizing us with
  | nil => cases h
  | cons p ps ih =>
    cases us with
    | nil => simp at hl
    | cons u us =>
      rw [List.zip_cons_cons, List.lookup_cons]
      cases e : n == p with
      | true => rfl
      | false =>
        rcases List.mem_cons.mp h with rfl | h
        · simp at e
        · exact ih (by simpa using hl) h
theorem zip_map {ps : List Str} {us : List Value} (hl : us.length = ps.length) (hn : ps.Nodup) : ps.filterMap (fun n => ((ps.zip us).lookup n).map (n, ·)) = ps.zip us := by
  have key : ∀ (qs : List Str) (vs : List Value), qs.Nodup → vs.length = qs.length → ∀ (f : Str → Option Value), (∀ n ∈ qs, f n = (qs.zip vs).lookup n) → qs.filterMap (fun n => (f n).map (n, ·)) = qs.zip vs := by
    intro qs
    induction qs with
    | nil => intros; rfl
    | cons q qs ih =>
      intro vs hq hv f hf
      cases vs with
      | nil => simp at hv
      | cons v vs =>
        obtain ⟨h1, h2⟩ := List.nodup_cons.mp hq
        have e1 : f q = some v := by
          rw [hf q (List.mem_cons_self ..), List.zip_cons_cons, List.lookup_cons]
          simp
        rw [List.filterMap_cons, e1, List.zip_cons_cons]
        show (q, v) :: _ = _
        rw [ih vs h2 (by simpa using hv) f fun n hn => ?_]
        rw [hf n (List.mem_cons_of_mem _ hn), List.zip_cons_cons, List.lookup_cons]
        have : (n == q) = false := by
          simp only [beq_eq_false_iff_ne]
          rintro rfl
          exact h1 hn
        rw [this]
  exact key ps us hn hl _ fun n _ => rfl
/-- positional parameters alone -/
def posB (a : Arguments) (ps : List Str) : Bool := a.posonlyargs.isEmpty && decide (a.args.map (·.arg) = ps) && a.vararg.isNone && a.kwonlyargs.isEmpty && a.kwarg.isNone
theorem bind_pos {x qual : Str} {params : Arguments} {body : List Stmt} {scope : Scope} {kV doc pm : Value} {an : Option Addr} {cdv ct : Value} {ps : List Str} (h : posB params ps = true) (hn : ps.Nodup) {us : List Value} (hl : us.length = ps.length) :
    bindArgs (PySem.W.fnOf x qual params body scope .none kV doc pm an cdv ct) ⟨us, []⟩ = pure (ps.zip us) := by
  obtain ⟨po, as, va, ko, kd, kw, df⟩ := params
  unfold posB at h
  simp only [Bool.and_eq_true, List.isEmpty_iff, Option.isNone_iff_eq_none, decide_eq_true_eq] at h
  obtain ⟨⟨⟨⟨rfl, rfl⟩, rfl⟩, rfl⟩, rfl⟩ := h
  unfold bindArgs
  simp only [PySem.W.fnOf]
  have e0 : seqItems? Value.none = pure none := rfl
  simp [e0, hl]
  have hf : ∀ m, List.filter (fun n => (List.lookup n ((List.map (fun x => x.arg) as).zip us)).isNone) (List.take m (List.map (fun x => x.arg) as)) = [] := fun m =>
    List.filter_eq_nil_iff.mpr fun n hn => by
      rw [zip_look hl (List.mem_of_mem_take hn)]
      simp
  have hz := zip_map hl hn
  rw [List.filterMap_map] at hz
  rw [if_neg]
  · exact congrArg pure hz
  · simp only [List.map_nil, List.nil_append, hf]
    simp
/-! ## the program's defs -/
structure DefM where
  id : Nat
  d : He.DefD
  ps : List Str
  N : List Str
  ow : List Nat
def DefM.ctx (m : DefM) (con : List (Str × D)) (fns : List (Str × Nat × Bool)) (ex : List (Str × Bool × List Str)) (cl : ClT) : Ctx := ⟨m.N, m.d.scope, fun _ => true, con, fns, m.ow, ex, cl⟩
def scopeB (N ps : List Str) (sc : Scope) : Bool := (sc.kind == .function) && (!sc.isCoroutine) && (!sc.isGenerator) && decide N.Nodup && decide (N.take ps.length = ps) && ps.all (fun x => locB sc x) && sc.names.all (fun y => !(y.2 == .free))
theorem scopeB_ok {N ps : List Str} {sc : Scope} (h : scopeB N ps sc = true) : FnScope N ps sc := by
  unfold scopeB at h
  simp only [Bool.and_eq_true, beq_iff_eq, decide_eq_true_eq, Bool.not_eq_true', List.all_eq_true] at h
  obtain ⟨⟨⟨⟨⟨⟨h1, h2⟩, h3⟩, h4⟩, h5⟩, h6⟩, h7⟩ := h
  exact ⟨h1, h2, h3, h4, h5, fun x hx => locB_ok (h6 x hx), fun y hy e => by have := h7 y hy; rw [e] at this; cases this⟩
def DefM.ok (m : DefM) : Bool := scopeB m.N m.ps m.d.scope && posB m.d.params m.ps && m.d.dfl.isEmpty && m.d.kwd.isEmpty
def cFn (n : Nat) (con : List (Str × D)) (fns : List (Str × Nat × Bool)) (ex : List (Str × Bool × List Str)) (cl : ClT) (m : DefM) : Option Fn := if m.ok = true then (cSs n (m.ctx con fns ex cl) m.d.body).map fun b => ⟨m.ps.length, m.N.length, b⟩ else none
def cFns (n : Nat) (con : List (Str × D)) (fns : List (Str × Nat × Bool)) (ex : List (Str × Bool × List Str)) (cl : ClT) : List DefM → Option (List (Nat × Fn))
  | [] => some []
  | m :: ms => (cFn n con fns ex cl m).bind fun f => (cFns n con fns ex cl ms).map fun fs => (m.id, f) :: fs
def msAt : List DefM → Nat → Option DefM
  | [], _ => none
  | m :: ms, i => if i = m.id then some m else msAt ms i
theorem msAt_mem : ∀ {ms : List DefM} {i : Nat} {m : DefM}, msAt ms i = some m → m ∈ ms
  | [], _, _, h => by cases h
  | m0 :: ms, i, m, h => by
    unfold msAt at h
    split at h
    · cases h
      exact List.mem_cons_self ..
    · exact List.mem_cons_of_mem _ (msAt_mem h)
theorem cFns_get {n : Nat} {con : List (Str × D)} {fns : List (Str × Nat × Bool)} {ex : List (Str × Bool × List Str)} {cl : ClT} : ∀ {ms : List DefM} {P : List (Nat × Fn)}, cFns n con fns ex cl ms = some P → ∀ {i : Nat} {m : DefM}, msAt ms i = some m → ∃ f, P.lookup i = some f ∧ cFn n con fns ex cl m = some f
  | [], _, _, i, m, hm => by cases hm
  | m0 :: ms, P, h, i, m, hm => by
    unfold cFns at h
    obtain ⟨f, h1, h⟩ := ob h
    obtain ⟨fs, h2, rfl⟩ := om h
    unfold msAt at hm
    rw [List.lookup_cons]
    split at hm
    · rename_i e
      cases hm
      subst e
      exact ⟨f, by simp, h1⟩
    · rename_i e
      obtain ⟨g, h3, h4⟩ := cFns_get h2 hm
      have e2 : (i == m0.id) = false := by simpa using e
      exact ⟨g, by rw [e2]; exact h3, h4⟩
/-! ## an __init__ that only sets attributes to its parameters -/
def iniOf (N : List Str) (sc : Scope) : List Stmt → Option (List (Str × Nat))
  | [] => some []
  | .Assign [.Attribute (.Name s _) f _] (.Name p _) _ :: rest => if visB sc s = true ∧ okNm s = true ∧ N[0]? = some s ∧ visB sc p = true ∧ okNm p = true then (match ixOf p N with
    | some (i + 1) => (iniOf N sc rest).map fun l => (f, i) :: l
    | _ => none) else none
  | _ => none
theorem ini_pss {X : Cx} {N : List Str} {sc : Scope} (hN : X.N = N) (hs : X.env.scope = sc) : ∀ {body : List Stmt} {fl : List (Str × Nat)}, iniOf N sc body = some fl → PSs X body (tIni X.K fl)
  | body, fl, h => by
    unfold iniOf at h
    split at h
    · cases h
      exact pss_nil
    · split at h
      case isFalse => cases h
      rename_i q
      obtain ⟨q1, q2, q3, q4, q5⟩ := q
      split at h
      case h_2 => cases h
      rename_i i hi
      obtain ⟨l, h1, rfl⟩ := om h
      obtain ⟨d1, d2, _⟩ := okNm_ok q2
      obtain ⟨e1, e2, _⟩ := okNm_ok q5
      exact pss_cons (ps_fld (pe_var (by rw [hN]; exact q3) (by rw [hs]; exact visB_ok q1) d1 d2) (pe_var (by rw [hN]; exact ixOf_ok hi) (by rw [hs]; exact visB_ok q4) e1 e2) (sw_no rfl _ _ _)) (ini_pss hN hs h1)
    · cases h
termination_by body => body.length
/-! ## what the written part says -/
mutual
def wrB (K : PySem.W.Frag) : Nat → Value → D → Bool
  | _, .int i _, .int j => decide (i = j)
  | _, .str x _, .str y => decide (x = y)
  | _, .bool x, .bool y => x == y
  | _, .none, .none => true
  | n + 1, .ref a, .tuple ds => (match K.lookup a with
    | some ⟨.type c, .none, .seq is _, _⟩ => decide (c = "tuple") && (decide (is.size ≤ sizeLine) && wrBs K n is.toList ds)
    | _ => false)
  | _, _, _ => false
def wrBs (K : PySem.W.Frag) : Nat → List Value → List D → Bool
  | _, [], [] => true
  | n, u :: us, d :: ds => wrB K n u d && wrBs K n us ds
  | _, _, _ => false
end
section
variable {K : PySem.W.Frag}
mutual
theorem wrB_ok : ∀ (n : Nat) (u : Value) (d : D), wrB K n u d = true → ∃ v, RelV v u ∧ WrRep K v d
  | n, .int i t, d, h => by
    cases d with
    | int j =>
      simp only [wrB, decide_eq_true_eq] at h
      subst h
      exact ⟨.int i, ⟨t, rfl⟩, fun _ _ => .int i⟩
    | _ => simp [wrB] at h
  | n, .str x t, d, h => by
    cases d with
    | str y =>
      simp only [wrB, decide_eq_true_eq] at h
      subst h
      exact ⟨.str x, ⟨t, rfl⟩, fun _ _ => .str x⟩
    | _ => simp [wrB] at h
  | n, .bool x, d, h => by
    cases d with
    | bool y =>
      simp only [wrB, beq_iff_eq] at h
      subst h
      exact ⟨.bl x, rfl, fun _ _ => .bl x⟩
    | _ => simp [wrB] at h
  | n, .none, d, h => by
    cases d with
    | none => exact ⟨.non, rfl, fun _ _ => .non⟩
    | _ => simp [wrB] at h
  | 0, .ref a, d, h => by cases d <;> simp [wrB] at h
  | n + 1, .ref a, d, h => by
    cases d with
    | tuple ds =>
      simp only [wrB] at h
      split at h
      · rename_i c is k sl heq
        simp only [Bool.and_eq_true, decide_eq_true_eq] at h
        obtain ⟨vs, h1, h2⟩ := wrBs_ok n is.toList ds h.2.2
        exact ⟨.ref a, rfl, fun U H => .tup (.inr ⟨_, is, k, ⟨heq, congrArg Value.type h.1⟩, rfl, rfl, h.2.1, h1⟩) (h2 U H)⟩
      · cases h
    | _ => simp [wrB] at h
  | n, .ellipsis, d, h => by cases n <;> cases d <;> simp [wrB] at h
  | n, .notImplemented, d, h => by cases n <;> cases d <;> simp [wrB] at h
  | n, .float _ _, d, h => by cases n <;> cases d <;> simp [wrB] at h
  | n, .bytes _ _, d, h => by cases n <;> cases d <;> simp [wrB] at h
  | n, .type _, d, h => by cases n <;> cases d <;> simp [wrB] at h
  | n, .builtin _, d, h => by cases n <;> cases d <;> simp [wrB] at h
theorem wrBs_ok : ∀ (n : Nat) (us : List Value) (ds : List D), wrBs K n us ds = true → ∃ vs, Vals vs us ∧ ∀ U H, Reps K U H vs ds
  | n, [], [], _ => ⟨[], .nil, fun _ _ => .nil⟩
  | n, u :: us, d :: ds, h => by
    simp only [wrBs, Bool.and_eq_true] at h
    obtain ⟨v, r1, r2⟩ := wrB_ok n u d h.1
    obtain ⟨vs, s1, s2⟩ := wrBs_ok n us ds h.2
    exact ⟨v :: vs, .cons r1 s1, fun U H => .cons (r2 U H) (s2 U H)⟩
  | n, [], _ :: _, h => by simp [wrBs] at h
  | n, _ :: _, [], h => by simp [wrBs] at h
end
end
end Mp
namespace Mp
open PySem PySem.Spec PyProof.Rows L2
/-! ## error classes with super().__init__('..' + str(x)); self.f = x: what is asked of the written part -/
def xOf : List Stmt → Option (Str × Str × Str × Str)
  | [.Expr (.Call (.Attribute (.Call (.Name s _) [] [] _) i p3) [.BinOp (.Constant (.str pre) _ _) .Add (.Call (.Name st _) [.Name par _] [] _) _] [] p9) _, .Assign [.Attribute (.Name self _) f _] (.Name par2 _) _] =>
    if s = "super" ∧ i = "__init__" ∧ st = "str" ∧ par2 = par ∧ (p3.endLine == p9.line) = true then some (pre, self, par, f) else none
  | _ => none
theorem xOf_ok {body : List Stmt} {pre self par f : Str} (h : xOf body = some (pre, self, par, f)) : ∃ j1 p1 p2 p3 p4 p5 p6 p7 p8 p9 p10 p11 p12 p13 p14, (p3.endLine == p9.line) = true ∧
    body = [.Expr (.Call (.Attribute (.Call (.Name "super" p1) [] [] p2) "__init__" p3) [.BinOp (.Constant (.str pre) j1 p4) .Add (.Call (.Name "str" p5) [.Name par p6] [] p7) p8] [] p9) p10, .Assign [.Attribute (.Name self p11) f p12] (.Name par p13) p14] := by
  unfold xOf at h
  split at h
  · split at h
    · rename_i q
      obtain ⟨rfl, rfl, rfl, rfl, q⟩ := q
      cases h
      exact ⟨_, _, _, _, _, _, _, _, _, _, _, _, _, _, _, q, rfl⟩
    · cases h
  · cases h
def xscB (N : List Str) (sc : Scope) : Bool := (sc.kind == .function) && (!sc.isCoroutine) && (!sc.isGenerator) && sc.names.all (fun y => !(y.2 == .cell)) && sc.names.all (fun y => !(y.2 == .free) || decide (y.1 = "__class__")) && decide (sc.names.lookup ("__class__" : Str) = some .free) && decide (sc.names.lookup ("super" : Str) = some .globalImplicit) && decide (sc.names.lookup ("str" : Str) = some .globalImplicit) && N.all (fun x => decide (sc.names.lookup x = some .local)) && decide N.Nodup
theorem xscB_ok {N : List Str} {sc : Scope} (h : xscB N sc = true) : XScope N sc ∧ sc.names.lookup ("str" : Str) = some .globalImplicit := by
  unfold xscB at h
  simp only [Bool.and_eq_true, beq_iff_eq, decide_eq_true_eq, Bool.not_eq_true', List.all_eq_true, Bool.or_eq_true] at h
  obtain ⟨⟨⟨⟨⟨⟨⟨⟨⟨h1, h2⟩, h3⟩, h4⟩, h5⟩, h6⟩, h7⟩, h8⟩, h9⟩, h10⟩ := h
  refine ⟨⟨h1, h2, h3, fun y hy e => ?_, fun y hy => ?_, h6, h7, h9, h10⟩, h8⟩
  · have := h4 y hy
    rw [e] at this
    cases this
  · rcases h5 _ (PySem.mem_of_lookup hy) with q | q
    · cases q
    · exact q
def oexB (K : PySem.W.Frag) (C : Addr) : Bool := (match K.lookup C with
  | some ⟨.type "type", _, .cls cd, sl⟩ => (match cd.mro, sl.toList with
    | .ref C' :: bm, [_, _, _, _, some (.builtin n), _] => C' == C && n == "ValueError.__new__" && !cd.hasDel && cd.hasDict && PySem.HandSPX.refsVE bm
    | _, _ => false)
  | _ => false) && He.eqO (PySem.W.findIn K (.ref C) "__setattr__") (some (some (.builtin "object.__setattr__"))) && (PySem.W.subIn K (.ref C) (.type "BaseException") == some true) && (PySem.W.typeIn K (.ref C) == some (.type "type")) && PySem.W.keepIn K (.ref C)
theorem oexB_ok {K : PySem.W.Frag} {C : Addr} (h : oexB K C = true) : OexC K C := by
  unfold oexB at h
  simp only [Bool.and_eq_true, beq_iff_eq] at h
  obtain ⟨⟨⟨⟨q, h2⟩, h3⟩, h4⟩, h5⟩ := h
  refine ⟨?_, He.eqO_ok h2, h3, h4, h5⟩
  split at q
  · rename_i dd cd sl ho
    split at q
    · rename_i C' bm k0 k1 k2 k3 n k5 hm hs
      simp only [Bool.and_eq_true, beq_iff_eq, Bool.not_eq_true'] at q
      obtain ⟨⟨⟨⟨rfl, rfl⟩, hdel⟩, hdict⟩, ht⟩ := q
      obtain ⟨nm, bs, mro, ns, qn, hd, sn, sub, ab, col, del⟩ := cd
      dsimp only at hm hdel hdict
      subst hm hdel hdict
      have hsl : sl = #[k0, k1, k2, k3, some (.builtin "ValueError.__new__"), k5] := by
        obtain ⟨l⟩ := sl
        simp only at hs
        rw [hs]
      subst hsl
      exact ⟨nm, qn, ns, bs, bm, sn, sub, ab, col, dd, k0, k1, k2, k3, k5, ho, ht⟩
    · cases q
  · cases q
/-- one such class: its name, its __init__ -/
structure XiM where
  x : Str
  d : He.DefD
def XiM.fld (m : XiM) : Option Str := (xOf m.d.body).map (·.2.2.2)
def fnX (K : PySem.W.Frag) (p : Str × Option Str) : He.FnW := match K.lookup (He.fAd K p) with
  | some ⟨_, _, .func fd, _⟩ => some (fd.name, fd.qualname, fd.params, fd.body, fd.scope, fd.globals, fd.closure.map (fun c => ((c.1, 0) : Str × Addr)), fd.builtins)
  | _ => none
def XiM.val (m : XiM) : He.FnW := some (m.d.name, m.d.qual, m.d.params, .stmts m.d.body, m.d.scope, mainGlobals, [("__class__", 0)], builtinsNs)
def xiCellB (K : PySem.W.Frag) (C cc : Addr) : Bool := match K.lookup cc with
  | some ⟨_, _, .cell (some (.ref D)), _⟩ => (PySem.W.clsIn K D).isSome && (PySem.W.mroIn K C (.ref D) == some true) && He.eqO (PySem.W.ks_superIn K C D "__init__") (some (some (.builtin "ValueError.__init__")))
  | _ => false
def xiStrB (file : Str) : Option Value → Bool
  | some (.str z _) => decide (z = file)
  | _ => false
theorem xiStrB_ok {file : Str} {v : Option Value} (h : xiStrB file v = true) : ∃ t, v = some (.str file t) := by
  unfold xiStrB at h
  split at h
  · rename_i z t
    rw [of_decide_eq_true h]
    exact ⟨t, rfl⟩
  · cases h
def xiCodeB (K : PySem.W.Frag) (file : Str) (cda : Addr) : Bool := match K.lookup cda with
  | some ⟨_, _, .fields vs, _⟩ => xiStrB file (vs[2]?)
  | _ => false
def xiFnB (K : PySem.W.Frag) (file qual : Str) (C fI : Addr) : Bool := match K.lookup fI with
  | some ⟨_, _, .func fd, _⟩ => PySem.W.codeIn K fd.code qual && (fd.defaults == .none) && (match fd.code, fd.closure with
    | .ref cda, [(_, cc)] => xiCodeB K file cda && xiCellB K C cc
    | _, _ => false)
  | _ => false
def xiB (file : Str) (K : PySem.W.Frag) (m : XiM) : Bool := (He.Fa.glo m.x).ok K && oexB K (He.ga K m.x) && PySem.W.excInitIn K (He.ga K m.x) PySem.HandSPX.veTail "ValueError.__new__" && He.eqO (PySem.W.findIn K (.ref (He.ga K m.x)) "__init__") (some (some (.ref (He.fAd K m.d.at_)))) &&
  (PySem.W.typeIn K (.ref (He.fAd K m.d.at_)) == some (.type "function")) && xfB K (He.ga K m.x) && He.eqO (PySem.W.nsIn K cStatics "thirdparty.any") (some none) && He.eqO (PySem.W.nsIn K mainGlobals "super") (some none) && He.eqO (PySem.W.nsIn K mainGlobals "str") (some none) &&
  (PySem.W.subIn K (.ref (He.ga K m.x)) (.type "ValueError") == some true) && (match xOf m.d.body with
    | some (pre, self, par, f) => decide (pre.length ≤ 1000000) && xscB [self, par] m.d.scope && posB m.d.params [self, par] && okNm self && okNm par && He.eqO (PySem.W.findIn K (.ref (He.ga K m.x)) f) (some none)
    | none => false) && xiFnB K file m.d.qual (He.ga K m.x) (He.fAd K m.d.at_)
theorem pos_head {a : Arguments} {ps : List Str} (h : posB a ps = true) : (a.posonlyargs ++ a.args).head?.map (·.arg) = ps.head? := by
  obtain ⟨po, as, va, ko, kd, kw, df⟩ := a
  unfold posB at h
  simp only [Bool.and_eq_true, List.isEmpty_iff, Option.isNone_iff_eq_none, decide_eq_true_eq] at h
  obtain ⟨⟨⟨⟨rfl, rfl⟩, _⟩, _⟩, _⟩ := h
  cases as <;> rfl
theorem bind_posX {x qual : Str} {params : Arguments} {body : List Stmt} {scope : Scope} {kV doc pm : Value} {an : Option Addr} {cdv ct : Value} {cc : Addr} {ps : List Str} (h : posB params ps = true) (hn : ps.Nodup) {us : List Value} (hl : us.length = ps.length) :
    bindArgs (PySem.W.ksFn x qual params body scope .none kV doc pm an cdv ct cc) ⟨us, []⟩ = pure (ps.zip us) := by
  have e : bindArgs (PySem.W.ksFn x qual params body scope .none kV doc pm an cdv ct cc) ⟨us, []⟩ = bindArgs (PySem.W.fnOf x qual params body scope .none kV doc pm an cdv ct) ⟨us, []⟩ := rfl
  rw [e]
  exact bind_pos h hn hl
theorem glo_ns' {K : PySem.W.Frag} {x : Str} (h : (He.Fa.glo x).ok K = true) : PySem.W.nsIn K mainGlobals x = some (some (.ref (He.ga K x))) := He.eqO_ok h
theorem xi_ok {file : Str} {K : PySem.W.Frag} {m : XiM} (h : xiB file K m = true) (e : fnX K m.d.at_ = m.val) {hp : Heap} {mg : Str → Option Value} (X : K.In hp) (G : hp.Ns mainGlobals mg) :
    ∃ f C fI fd ps, m.fld = some f ∧ mg m.x = some (.ref C) ∧ PySem.W.findIn K (.ref C) "__init__" = some (some (.ref fI)) ∧ PySem.W.typeIn K (.ref fI) = some (.type "function") ∧ OexC K C ∧ FldOk K (.ref C) f ∧
      (∀ (Pr : Program) (w : World) (base : Heap), XProg Pr file → FnOk Pr w K mg base (L2.CX Pr w) 1 fI fd ps (spX C f)) ∧ Binds K fd ps [] := by
  unfold xiB at h
  simp only [Bool.and_eq_true, beq_iff_eq] at h
  obtain ⟨⟨⟨⟨⟨⟨⟨⟨⟨⟨⟨h1, h2⟩, h3⟩, h4⟩, h5⟩, h6⟩, h7⟩, h8⟩, h9⟩, h10⟩, h11⟩, h12⟩ := h
  split at h11
  case h_2 => cases h11
  rename_i pre self par f hx
  simp only [Bool.and_eq_true, decide_eq_true_eq] at h11
  obtain ⟨⟨⟨⟨⟨k1, k2⟩, k3⟩, k4⟩, k5⟩, k6⟩ := h11
  obtain ⟨j1, p1, p2, p3, p4, p5, p6, p7, p8, p9, p10, p11, p12, p13, p14, hline, hbody⟩ := xOf_ok hx
  unfold xiFnB at h12
  unfold fnX at e
  split at h12
  case h_2 => cases h12
  rename_i oc od fd osl hlk
  rw [hlk] at e
  obtain ⟨n1, n2, n3, n4, n5, n6, n7, n8, n9, n10, n11, n12, n13, n14, n15⟩ := fd
  have e2 : (some (n1, n2, n3, n4, n5, n6, n7.map (fun c => ((c.1, 0) : Str × Addr)), n15) : He.FnW) = (some (m.d.name, m.d.qual, m.d.params, .stmts m.d.body, m.d.scope, mainGlobals, [("__class__", 0)], builtinsNs) : He.FnW) := e
  simp only [Option.some.injEq, Prod.mk.injEq] at e2
  obtain ⟨g1, g2, g3, g4, g5, g6, g7, g8⟩ := e2
  subst g1 g2 g3 g4 g5 g6 g8
  simp only [Bool.and_eq_true, beq_iff_eq] at h12
  obtain ⟨⟨c1, c2⟩, c3⟩ := h12
  split at c3
  case h_2 => cases c3
  rename_i cda cn cc
  subst c2
  have hcn : cn = "__class__" := by
    simp only [List.map_cons, List.map_nil, List.cons.injEq, Prod.mk.injEq, and_true] at g7
    exact g7
  subst hcn
  simp only [Bool.and_eq_true] at c3
  obtain ⟨c4, c5⟩ := c3
  unfold xiCodeB at c4
  split at c4
  case h_2 => cases c4
  rename_i cl1 cd1 vs sl1 hc1
  obtain ⟨tz, hz⟩ := xiStrB_ok c4
  unfold xiCellB at c5
  split at c5
  case h_2 => cases c5
  rename_i cl2 cd2 D sl2 hc2
  simp only [Bool.and_eq_true, beq_iff_eq] at c5
  obtain ⟨⟨c6, c7⟩, c8⟩ := c5
  obtain ⟨S, hstr⟩ := xscB_ok k2
  obtain ⟨d1, d2, _⟩ := okNm_ok k4
  obtain ⟨d3, d4, _⟩ := okNm_ok k5
  have hmg := PySem.W.mg_of X G (glo_ns' h1)
  have XC : XCls K (He.ga K m.x) D cc cda file f := ⟨oexB_ok h2, h3, ⟨_, _, _, hc2⟩, ⟨_, _, _, _, _, hc1, hz⟩, Option.isSome_iff_exists.mp c6, c7, He.eqO_ok h7, He.eqO_ok c8, h10, He.eqO_ok k6⟩
  have hsup : mg "super" = none := PySem.W.mg_none_of X G (He.eqO_ok h8)
  have hstr2 : mg "str" = none := PySem.W.mg_none_of X G (He.eqO_ok h9)
  have hself : ((m.d.params.posonlyargs ++ m.d.params.args).head?).map (·.arg) = some self := pos_head k3
  refine ⟨f, He.ga K m.x, He.fAd K m.d.at_, PySem.W.ksFn m.d.name m.d.qual m.d.params m.d.body m.d.scope .none n9 n10 n11 n12 (.ref cda) n14 cc, [self, par], by unfold XiM.fld; rw [hx]; rfl, hmg, He.eqO_ok h4, h5, oexB_ok h2, ⟨_, rfl, xfB_ok h6, He.eqO_ok k6⟩, fun Pr w base XP => ?_, .all fun us hl => bind_posX (cc := cc) k3 S.nd hl⟩
  rw [hbody] at hlk ⊢
  exact initS_ok (k := 0) hlk c1 S XC XP k1 d1 d2 d3 d4 hstr hself hline hsup hstr2
end Mp
namespace Mp
open PySem PySem.Spec PyProof.Rows L2
/-! ## the program -/
structure Prg where
  ms : List DefM
  con : List (Str × D)
  fns : List (Str × Nat × Bool)
  exs : List (Str × Bool × List Str)
  ins : List (Str × DefM)
  cl : ClT
  xs : List XiM
  file : Str
/-- a class of errors, and the others seen from it -/
def exB (p : Prg) (K : PySem.W.Frag) (e : Str × Bool × List Str) : Bool := match PySem.W.nsIn K mainGlobals e.1 with
  | some (some (.ref C)) => (!e.2.1 || excB K C) && p.exs.all fun f => match PySem.W.nsIn K mainGlobals f.1 with
    | some (some (.ref C')) => PySem.W.exmOne K (.ref C') (.ref C) == some (f.2.2.contains e.1) && (PySem.W.kitOne K (.ref C') (.ref C) == some (f.2.2.contains e.1) && isEB K C')
    | _ => false
  | _ => false
def conB (K : PySem.W.Frag) (c : Str × D) : Bool := match PySem.W.nsIn K mainGlobals c.1 with
  | some (some u) => wrB K 30 u c.2
  | _ => false
def fnB (p : Prg) (K : PySem.W.Frag) (f : Str × Nat × Bool) : Bool := (He.Fa.glo f.1).ok K && (match msAt p.ms f.2.1 with
  | some m => decide (He.ga K f.1 = He.fAd K m.d.at_)
  | none => false)
/-- how a class is made -/
def nwB (p : Prg) (K : PySem.W.Frag) (e : Str × Nat × List (Str × Nat)) : Bool := (He.Fa.glo e.1).ok K && (He.Fa.cls e.1).ok K && (He.Fa.mkr e.1).ok K && decide ((e.2.2.map (·.1)).Nodup) && decide (e.2.2.length ≤ 1000) && (e.2.2.all fun q => (He.Fa.noat e.1 q.1).ok K && decide (q.2 < e.2.1)) && (match p.ins.lookup e.1 with
  | some m => m.ok && decide (He.fAd K m.d.at_ = He.ma K (He.ga K e.1) "__init__") && decide (iniOf m.N m.d.scope m.d.body = some e.2.2) && decide (m.ps.length = e.2.1 + 1)
  | none => false)
def mtB (p : Prg) (K : PySem.W.Frag) (e : Str × Str × Nat) : Bool := (He.Fa.glo e.2.1).ok K && (He.Fa.cls e.2.1).ok K && (He.Fa.meth e.2.1 e.1).ok K && (match msAt p.ms e.2.2 with
  | some m => decide (He.fAd K m.d.at_ = He.ma K (He.ga K e.2.1) e.1)
  | none => false)
def flB (K : PySem.W.Frag) (e : Str × List Str) : Bool := e.2.all fun c => (He.Fa.glo c).ok K && (He.Fa.cls c).ok K && (He.Fa.noat c e.1).ok K
def xkB (p : Prg) (e : Str × Str) : Bool := match p.xs.find? (fun m => decide (m.x = e.1)) with
  | some m => decide (m.fld = some e.2)
  | none => false
def clB (p : Prg) (K : PySem.W.Frag) : Bool := (p.cl.nw.all (nwB p K)) && (p.cl.mt.all (mtB p K)) && (p.cl.fl.all (flB K))
def sayB (p : Prg) (K : PySem.W.Frag) : Bool := ((p.ms ++ p.ins.map (·.2)).all fun m => m.d.ok K) && (p.con.all (conB K)) && (p.fns.all (fnB p K)) && (biNames.all fun x => (He.Fa.free x).ok K) && (p.exs.all (exB p K)) && (clB p K && (p.xs.all (xiB p.file K) && p.cl.xi.all (xkB p)))
def obsM (p : Prg) (K : PySem.W.Frag) : He.AlD := (sayB p K, ((p.ms ++ p.ins.map (·.2)).map fun m => He.fnW K m.d.at_) ++ p.xs.map fun m => fnX K m.d.at_)
def valM (p : Prg) : He.AlD := (true, ((p.ms ++ p.ins.map (·.2)).map fun m => m.d.val) ++ p.xs.map XiM.val)
/-- no list stands in it -/
def noL (K : PySem.W.Frag) : PySem.W.Frag := K.filter fun q => !(q.2.cls == .type "list")
def NoList (K : PySem.W.Frag) : Prop := ∀ a o, K.lookup a = some o → o.cls ≠ .type "list"
theorem lookup_mem {α : Type} : ∀ {l : List (Addr × α)} {a : Addr} {o : α}, l.lookup a = some o → (a, o) ∈ l
  | (b, o') :: r, a, o, h => by
    rw [List.lookup_cons] at h
    cases e : a == b with
    | true =>
      rw [e] at h
      cases h
      rw [beq_iff_eq.mp e]
      exact List.mem_cons_self ..
    | false =>
      rw [e] at h
      exact List.mem_cons_of_mem _ (lookup_mem h)
theorem noL_no (K : PySem.W.Frag) : NoList (noL K) := fun a o h e => by
  have := (List.mem_filter.mp (lookup_mem h)).2
  rw [e] at this
  simp at this
theorem frG_mem {g : Addr → Option Obj} : ∀ {as : List Addr} {a : Addr} {o : Obj}, (a, o) ∈ He.frG g as → g a = some o := by
  intro as a o h
  unfold He.frG at h
  obtain ⟨b, _, hb⟩ := List.mem_filterMap.mp h
  cases e : g b with
  | none => rw [e] at hb; cases hb
  | some q =>
    rw [e] at hb
    cases hb
    exact e
theorem noL_in {as : List Addr} {h : Heap} : (noL (He.frG h.get? as)).In h := fun a o e => frG_mem (List.mem_filter.mp (lookup_mem e)).1
def obsMG (p : Prg) (g : Addr → Option Obj) : He.AlD := obsM p (noL (He.frG g (He.asD g 4 ++ [cStatics])))
def hookM (p : Prg) : PySem.W.Hook where
  α := He.AlD
  obs := fun s => obsMG p s.heap.get?
  val := fun _ => valM p
  says := fun _ h => ∃ K : PySem.W.Frag, K.In h ∧ NoList K ∧ obsM p K = valM p
  of := fun _ _ e => ⟨_, noL_in, noL_no _, e⟩
  keeps := fun _ _ _ ⟨K, hK, hn, c⟩ k => ⟨K, PySem.W.Frag.In.keeps hK k, hn, c⟩
theorem obsMG_eq {p : Prg} {g : Addr → Option Obj} {s : Shared} (h : ∀ a, g a = s.heap.get? a) : obsMG p g = (hookM p).obs s := by
  have e : g = s.heap.get? := funext h
  rw [e] <;> rfl
section
variable {p : Prg} {K : PySem.W.Frag}
theorem says_two (c : obsM p K = valM p) : (p.ms ++ p.ins.map (·.2)).map (fun m => He.fnW K m.d.at_) = ((p.ms ++ p.ins.map (·.2)).map fun m => m.d.val) ∧ (p.xs.map fun m => fnX K m.d.at_) = p.xs.map XiM.val := by
  have e : ((p.ms ++ p.ins.map (·.2)).map (fun m => He.fnW K m.d.at_)) ++ (p.xs.map fun m => fnX K m.d.at_) = ((p.ms ++ p.ins.map (·.2)).map fun m => m.d.val) ++ p.xs.map XiM.val := congrArg (fun z : He.AlD => z.2) c
  exact List.append_inj e (by rw [List.length_map, List.length_map])
theorem says_def (c : obsM p K = valM p) {m : DefM} (h : m ∈ p.ms ++ p.ins.map (·.2)) : ∃ fd, FunD K m.d.name m.d.qual m.d.params m.d.body m.d.scope (m.d.dvs K) (m.d.kws K) (He.fAd K m.d.at_) fd := by
  have c1 : sayB p K = true := congrArg (fun z : He.AlD => z.1) c
  unfold sayB at c1
  simp only [Bool.and_eq_true, List.all_eq_true] at c1
  have e := (says_two c).1
  obtain ⟨i, hi⟩ := List.getElem?_of_mem h
  have e2 : ((p.ms ++ p.ins.map (·.2)).map fun m => He.fnW K m.d.at_)[i]? = ((p.ms ++ p.ins.map (·.2)).map fun m => m.d.val)[i]? := by rw [e]
  rw [List.getElem?_map, List.getElem?_map, hi] at e2
  exact He.DefD.funD (Option.some.inj e2) (c1.1.1.1.1.1 m h)
theorem says_con (c : obsM p K = valM p) {x : Str} {d : D} (h : p.con.lookup x = some d) {hp : Heap} {mg : Str → Option Value} (X : K.In hp) (G : hp.Ns mainGlobals mg) : ∃ u v, mg x = some u ∧ RelV v u ∧ WrRep K v d := by
  have c1 : sayB p K = true := congrArg (fun z : He.AlD => z.1) c
  unfold sayB at c1
  simp only [Bool.and_eq_true, List.all_eq_true] at c1
  have h2 := c1.1.1.1.1.2 (x, d) (PySem.mem_of_lookup h)
  unfold conB at h2
  split at h2
  · rename_i u e
    obtain ⟨v, r, w⟩ := wrB_ok 30 u d h2
    exact ⟨u, v, PySem.W.mg_of X G e, r, w⟩
  · cases h2
theorem says_fn (c : obsM p K = valM p) {x : Str} {i : Nat} {b : Bool} (h : p.fns.lookup x = some (i, b)) {hp : Heap} {mg : Str → Option Value} (X : K.In hp) (G : hp.Ns mainGlobals mg) : ∃ m, msAt p.ms i = some m ∧ mg x = some (.ref (He.fAd K m.d.at_)) := by
  have c1 : sayB p K = true := congrArg (fun z : He.AlD => z.1) c
  unfold sayB at c1
  simp only [Bool.and_eq_true, List.all_eq_true] at c1
  have h2 := c1.1.1.1.2 (x, i, b) (PySem.mem_of_lookup h)
  unfold fnB at h2
  simp only [Bool.and_eq_true] at h2
  obtain ⟨h3, h4⟩ := h2
  split at h4
  · rename_i m e
    have := He.glo_ok X G h3
    rw [of_decide_eq_true h4] at this
    exact ⟨m, e, this⟩
  · cases h4
theorem says_bi (c : obsM p K = valM p) {x : Str} (h : x ∈ biNames) {hp : Heap} {mg : Str → Option Value} (X : K.In hp) (G : hp.Ns mainGlobals mg) : mg x = none := by
  have c1 : sayB p K = true := congrArg (fun z : He.AlD => z.1) c
  unfold sayB at c1
  simp only [Bool.and_eq_true, List.all_eq_true] at c1
  exact He.free_ok X G (c1.1.1.2 x h)
theorem says_ex (c : obsM p K = valM p) {x : Str} {pl : Bool} {ss : List Str} (h : p.exs.lookup x = some (pl, ss)) {hp : Heap} {mg : Str → Option Value} (X : K.In hp) (G : hp.Ns mainGlobals mg) :
    ∃ C, mg x = some (.ref C) ∧ (pl = true → excB K C = true) ∧ ∀ y pl' tt, p.exs.lookup y = some (pl', tt) → ∃ C', mg y = some (.ref C') ∧ PySem.W.exmOne K (.ref C') (.ref C) = some (tt.contains x) ∧ PySem.W.kitOne K (.ref C') (.ref C) = some (tt.contains x) ∧ isEB K C' = true := by
  have c1 : sayB p K = true := congrArg (fun z : He.AlD => z.1) c
  unfold sayB at c1
  simp only [Bool.and_eq_true, List.all_eq_true] at c1
  have h2 := c1.1.2 (x, pl, ss) (PySem.mem_of_lookup h)
  unfold exB at h2
  split at h2
  case h_2 => cases h2
  rename_i C e
  simp only [Bool.and_eq_true, List.all_eq_true, Bool.or_eq_true, Bool.not_eq_true'] at h2
  refine ⟨C, PySem.W.mg_of X G e, fun q => h2.1.resolve_left (by rw [q]; simp), fun y pl' tt hy => ?_⟩
  have h3 := h2.2 (y, pl', tt) (PySem.mem_of_lookup hy)
  split at h3
  case h_2 => cases h3
  rename_i C' e'
  simp only [Bool.and_eq_true, beq_iff_eq] at h3
  exact ⟨C', PySem.W.mg_of X G e', h3.1, h3.2.1, h3.2.2⟩
theorem says_cl (c : obsM p K = valM p) : clB p K = true := by
  have c1 : sayB p K = true := congrArg (fun z : He.AlD => z.1) c
  unfold sayB at c1
  simp only [Bool.and_eq_true] at c1
  exact c1.2.1
theorem says_xi (c : obsM p K = valM p) {x f : Str} (h : p.cl.xi.lookup x = some f) {hp : Heap} {mg : Str → Option Value} (X : K.In hp) (G : hp.Ns mainGlobals mg) : ∃ C fI fd ps, mg x = some (.ref C) ∧ PySem.W.findIn K (.ref C) "__init__" = some (some (.ref fI)) ∧ PySem.W.typeIn K (.ref fI) = some (.type "function") ∧ OexC K C ∧ FldOk K (.ref C) f ∧
    (∀ (Pr : Program) (w : World) (base : Heap), XProg Pr p.file → FnOk Pr w K mg base (L2.CX Pr w) 1 fI fd ps (spX C f)) ∧ Binds K fd ps [] := by
  have c1 : sayB p K = true := congrArg (fun z : He.AlD => z.1) c
  unfold sayB at c1
  simp only [Bool.and_eq_true, List.all_eq_true] at c1
  have h2 := c1.2.2.2 (x, f) (PySem.mem_of_lookup h)
  unfold xkB at h2
  split at h2
  case h_2 => cases h2
  rename_i m hm
  have hx : m.x = x := by simpa using List.find?_some hm
  have hmem := List.mem_of_find?_eq_some hm
  have h2 := of_decide_eq_true h2
  have e := (says_two c).2
  obtain ⟨i, hi⟩ := List.getElem?_of_mem hmem
  have e2 : (p.xs.map fun m => fnX K m.d.at_)[i]? = (p.xs.map XiM.val)[i]? := by rw [e]
  rw [List.getElem?_map, List.getElem?_map, hi] at e2
  obtain ⟨f', C, fI, fd, ps, g1, g2, g3, g4, g5, g6, g7, g8⟩ := xi_ok (c1.2.2.1 m hmem) (Option.some.inj e2) X G
  rw [g1] at h2
  cases h2
  rw [hx] at g2
  exact ⟨C, fI, fd, ps, g2, g3, g4, g5, g6, g7, g8⟩
theorem glo_ns {x : Str} (h : (He.Fa.glo x).ok K = true) : PySem.W.nsIn K mainGlobals x = some (some (.ref (He.ga K x))) := He.eqO_ok h
theorem says_fl (c : obsM p K = valM p) {f : Str} {cs : List Str} (h : p.cl.fl.lookup f = some cs) : ∀ x ∈ cs, ∃ C, PySem.W.nsIn K mainGlobals x = some (some (.ref C)) ∧ L2.Cls K C ∧ NoAttr K C f := fun x hx => by
  have c1 := says_cl c
  unfold clB at c1
  simp only [Bool.and_eq_true, List.all_eq_true] at c1
  have h2 := c1.2 (f, cs) (PySem.mem_of_lookup h)
  unfold flB at h2
  have h3 := List.all_eq_true.mp h2 x hx
  simp only [Bool.and_eq_true] at h3
  exact ⟨_, glo_ns h3.1.1, He.cls_ok h3.1.2, He.noat_ok h3.2⟩
theorem says_mt (c : obsM p K = valM p) {m x : Str} {i : Nat} (h : p.cl.mt.lookup m = some (x, i)) : ∃ d, msAt p.ms i = some d ∧ PySem.W.nsIn K mainGlobals x = some (some (.ref (He.ga K x))) ∧ L2.Cls K (He.ga K x) ∧ Meth K (He.ga K x) m (He.fAd K d.d.at_) := by
  have c1 := says_cl c
  unfold clB at c1
  simp only [Bool.and_eq_true, List.all_eq_true] at c1
  have h2 := c1.1.2 (m, x, i) (PySem.mem_of_lookup h)
  unfold mtB at h2
  simp only [Bool.and_eq_true] at h2
  obtain ⟨⟨⟨h3, h4⟩, h5⟩, h6⟩ := h2
  split at h6
  · rename_i d e
    have h7 := He.meth_ok h5
    rw [← of_decide_eq_true h6] at h7
    exact ⟨d, e, glo_ns h3, He.cls_ok h4, h7⟩
  · cases h6
theorem lookup_map2 {α β : Type} {l : List (Str × α)} {x : Str} {m : α} (h : l.lookup x = some m) : m ∈ l.map (·.2) := List.mem_map.mpr ⟨(x, m), PySem.mem_of_lookup h, rfl⟩
theorem bindsOk {m : DefM} {fd : FuncData} (hok : m.ok = true) (F : FunD K m.d.name m.d.qual m.d.params m.d.body m.d.scope (m.d.dvs K) (m.d.kws K) (He.fAd K m.d.at_) fd) : FnScope m.N m.ps m.d.scope ∧ FunD K m.d.name m.d.qual m.d.params m.d.body m.d.scope [] [] (He.fAd K m.d.at_) fd ∧ Binds K fd m.ps [] := by
  unfold DefM.ok at hok
  simp only [Bool.and_eq_true, List.isEmpty_iff] at hok
  obtain ⟨⟨⟨h1, h2⟩, h3⟩, h4⟩ := hok
  have e1 : m.d.dvs K = [] := by unfold He.DefD.dvs; rw [h3]; rfl
  have e2 : m.d.kws K = [] := by unfold He.DefD.kws; rw [h4]; rfl
  rw [e1, e2] at F
  have S := scopeB_ok h1
  have hnd : m.ps.Nodup := by
    rw [← S.pre]
    exact S.nd.sublist (List.take_sublist ..)
  exact ⟨S, F, F.bindsN fun kV doc pm an cdv ct us hl => bind_pos h2 hnd hl⟩
theorem says_nw (c : obsM p K = valM p) {x : Str} {n : Nat} {fl : List (Str × Nat)} (h : p.cl.nw.lookup x = some (n, fl)) {hp : Heap} {mg : Str → Option Value} (X : K.In hp) (G : hp.Ns mainGlobals mg) :
    ∃ C f fd ps, PySem.W.nsIn K mainGlobals x = some (some (.ref C)) ∧ mg x = some (.ref C) ∧ Mk K C f ∧ (∀ (Pr : Program) (w : World) (base : Heap), FnOk Pr w K mg base (L2.CX Pr w) 1 f fd ps (spI C n fl)) ∧ Binds K fd ps [] := by
  have c1 := says_cl c
  unfold clB at c1
  simp only [Bool.and_eq_true, List.all_eq_true] at c1
  have h2 := c1.1.1 (x, n, fl) (PySem.mem_of_lookup h)
  unfold nwB at h2
  simp only [Bool.and_eq_true, List.all_eq_true] at h2
  obtain ⟨⟨⟨⟨⟨⟨h3, h4⟩, h5⟩, h6⟩, h7⟩, h8⟩, h9⟩ := h2
  split at h9
  case h_2 => cases h9
  rename_i m e
  simp only [Bool.and_eq_true, decide_eq_true_eq] at h9
  obtain ⟨⟨⟨k1, k2⟩, k3⟩, k4⟩ := h9
  obtain ⟨fd, F⟩ := says_def c (List.mem_append_right _ (lookup_map2 (β := Unit) e))
  obtain ⟨S, F, hB⟩ := bindsOk k1 F
  refine ⟨He.ga K x, He.fAd K m.d.at_, fd, m.ps, glo_ns h3, PySem.W.mg_of X G (glo_ns h3), ?_, fun Pr w base => ?_, hB⟩
  · have := He.mkr_ok h5
    rw [← k2] at this
    exact this
  · exact init_ok F S k4 (He.cls_ok h4) (fun q hq => He.noat_ok (h8 q hq).1) (of_decide_eq_true h6) (of_decide_eq_true h7) (fun q hq => of_decide_eq_true (h8 q hq).2) fun cdv A outer s H E => ini_pss rfl rfl k3
/-- every def does what its translation says, so many calls deep -/
theorem prog_ok {P : List (Nat × Fn)} {fuel : Nat} (hP : cFns fuel p.con p.fns p.exs p.cl p.ms = some P) (c : obsM p K = valM p) :
    ∀ {i : Nat} {m : DefM}, msAt p.ms i = some m → ∃ fd, Binds K fd m.ps [] ∧ PySem.W.keepIn K (.ref (He.fAd K m.d.at_)) = true ∧ (∀ (s : Shared) (us : List Value), us.length = m.ps.length → BindsTo s fd ⟨us, []⟩ (m.ps.zip us)) ∧
      ∀ {Pr : Program} {w : World} {mg : Str → Option Value} {base : Heap}, XProg Pr p.file ∨ p.cl.xi = [] → K.In base → base.Ns mainGlobals mg → ∀ n, FnOk Pr w K mg base (L2.CX Pr w) (n + 2) (He.fAd K m.d.at_) fd m.ps (spG mg K m.ps.length (run P n i)) := by
  have choice : ∀ {i : Nat} {m : DefM}, msAt p.ms i = some m → ∃ fd, FunD K m.d.name m.d.qual m.d.params m.d.body m.d.scope [] [] (He.fAd K m.d.at_) fd ∧ Binds K fd m.ps [] ∧ (∀ (s : Shared) (us : List Value), us.length = m.ps.length → BindsTo s fd ⟨us, []⟩ (m.ps.zip us)) := by
    intro i m hm
    obtain ⟨fd, F⟩ := says_def c (List.mem_append_left _ (msAt_mem hm))
    obtain ⟨f, _, hf⟩ := cFns_get hP hm
    unfold cFn at hf
    split at hf
    case isFalse => cases hf
    rename_i hok
    obtain ⟨S, F, hB⟩ := bindsOk hok F
    unfold DefM.ok at hok
    simp only [Bool.and_eq_true, List.isEmpty_iff] at hok
    obtain ⟨⟨⟨h1, h2⟩, h3⟩, h4⟩ := hok
    have hnd : m.ps.Nodup := by
      rw [← S.pre]
      exact S.nd.sublist (List.take_sublist ..)
    exact ⟨fd, F, hB, F.bindsA fun kV doc pm an cdv ct us hl => bind_pos h2 hnd hl⟩
  have ar : ∀ (n : Nat) {i : Nat} {m : DefM}, msAt p.ms i = some m → ∀ ds, ds.length ≠ m.ps.length → run P n i ds = .stuck := by
    intro n i m hm ds hl
    obtain ⟨f', hf', hc'⟩ := cFns_get hP hm
    have : f'.np = m.ps.length := by
      unfold cFn at hc'
      split at hc'
      · obtain ⟨b', _, rfl⟩ := om hc'
        rfl
      · cases hc'
    exact run_arity P n i hf' ds (by rw [this]; exact hl)
  have all : ∀ {Pr : Program} {w : World} {mg : Str → Option Value} {base : Heap}, XProg Pr p.file ∨ p.cl.xi = [] → K.In base → base.Ns mainGlobals mg → ∀ n, ∀ {i : Nat} {m : DefM} {fd : FuncData}, msAt p.ms i = some m → FunD K m.d.name m.d.qual m.d.params m.d.body m.d.scope [] [] (He.fAd K m.d.at_) fd → FnOk Pr w K mg base (L2.CX Pr w) (n + 2) (He.fAd K m.d.at_) fd m.ps (spG mg K m.ps.length (run P n i)) := by
    intro Pr w mg base XP X G n
    induction n with
    | zero =>
      intro i m fd hm F
      exact ⟨fun vs H Q E ⟨B, ds, _, r, hl, _⟩ => by rw [Reps.length r]; exact hl, fun _ _ _ _ _ _ _ _ _ _ _ _ _ ⟨_, _, _, _, _, q⟩ => q.elim⟩
    | succ n ih =>
      intro i m fd hm F
      obtain ⟨f, hf, hc⟩ := cFns_get hP hm
      unfold cFn at hc
      split at hc
      case isFalse => cases hc
      rename_i hok
      obtain ⟨b, hb, rfl⟩ := om hc
      unfold DefM.ok at hok
      simp only [Bool.and_eq_true] at hok
      have S := scopeB_ok hok.1.1.1
      refine fn_ok (k := n + 2) (fb := exs (run P n) b) F S (fun ds hl => ?_) fun cdv A outer s H E H0 hr => ?_
      · show (match P.lookup i with
          | none => Out.stuck
          | some fn => if ds.length = fn.np then (exs (run P n) fn.body (rho0 fn.nn ds)).fin else .stuck) = _
        rw [hf]
        exact if_pos hl
      · refine (oks (k := n + 2) fuel).ss (m.ctx p.con p.fns p.exs p.cl) m.d.body b hb ?_ ⟨passes_of rfl, rfl, rfl⟩
        refine ⟨rfl, S.nd, rfl, S.kind, rfl, fun x hx => rfl, hr, takes_of rfl rfl rfl rfl, fun x d hx => says_con c hx X G, fun x j bb hx => ?_, fun x hx => says_bi c hx X G, fun x pl ss hx => says_ex c hx X G, Nat.le_add_left .., fun x m fl hx => ?_, fun x y j hx => ?_, fun f cs hx => says_fl c hx, fun x f hx => ?_⟩
        · obtain ⟨m', hm', hmg⟩ := says_fn c hx X G
          obtain ⟨fd', F', hB, _⟩ := choice hm'
          exact ⟨m'.ps.length, _, fd', m'.ps, ih hm' F', ar n hm', hmg, F'.kp, hB⟩
        · obtain ⟨C, f, fd, ps, a1, a2, a3, a4, a5⟩ := says_nw c hx X G
          exact ⟨C, f, fd, ps, a1, a2, a3, a4 _ _ _, a5⟩
        · obtain ⟨m', hm', a1, a2, a3⟩ := says_mt c hx
          obtain ⟨fd', F', hB, _⟩ := choice hm'
          exact ⟨_, m'.ps.length, _, fd', m'.ps, a1, a2, a3, ih hm' F', ar n hm', hB⟩
        · rcases XP with XP | XP
          · obtain ⟨C, fI, fd, ps, g2, g3, g4, g5, g6, g7, g8⟩ := says_xi c hx X G
            exact ⟨C, fI, fd, ps, g2, g3, g4, g5, g6, g7 _ _ _ XP, g8⟩
          · exfalso
            have hx : p.cl.xi.lookup x = some f := hx
            rw [XP] at hx
            cases hx
  intro i m hm
  obtain ⟨fd, F, hB, hB2⟩ := choice hm
  exact ⟨fd, hB, F.kp, hB2, fun {Pr} {w} {mg} {base} XP X G n => all XP X G n hm F⟩
end
/-! ## a law -/
/-- the script's list -/
theorem script_rep {K : PySem.W.Frag} {H : Hp} {a : Addr} {ns : List Int} (hn : NoList K) (h : SqL K H a (ns.map V.int)) : Reps K NoU H [.ref a] [.list (ns.map .int)] := by
  refine .cons ?_ .nil
  rcases h with h | ⟨o, _, _, h1, h2, _⟩
  · exact .lst (fun z => z) h (Reps.of_ints ns)
  · exact (hn a o h1 h2).elim
theorem law_sp {mg : Str → Option Value} {K : PySem.W.Frag} {g : List D → Out D} {H : Hp} {a : Addr} {ns : List Int} (hn : NoList K) (hS : SqL K H a (ns.map V.int)) (hg : g [.list (ns.map .int)] = .ok (.bool true)) :
    spG mg K 1 g [.ref a] H (fun v _ => v = .bl true) fun _ _ _ => False := by
  refine ⟨NoU, _, fun a z => z.elim, script_rep hn hS, rfl, ?_⟩
  rw [hg]
  intro v H' _ r
  cases r
  rfl
theorem FnOk.cx {P : Program} {w : World} {K : PySem.W.Frag} {mg : Str → Option Value} {base : Heap} {CX CX' : CXT} {k : Nat} {f : Addr} {fd : FuncData} {ps : List Str} {sp : Sp} (F : FnOk P w K mg base CX k f fd ps sp) (h : ∀ outer H s E e s', CX outer H s E e s' → CX' outer H s E e s') : FnOk P w K mg base CX' k f fd ps sp :=
  ⟨F.len, fun A outer s H args us vs Q E hr e0 hb r hsp => codeAny_mono (F.run A outer s H args us vs Q E hr e0 hb r hsp) fun r s' hq => by
    cases r with
    | error e => exact h _ _ _ _ _ _ hq
    | ok fl => cases fl <;> exact hq⟩
/-- what any world's calls may let out -/
def CXw (Pr : Program) : CXT := fun outer H s E e s' => ∃ w, L2.CX Pr w outer H s E e s'
theorem walk_law {l : PySem.W.OpenLaw} {n k : Nat} {q : Program} {loose : List Str} {XP : (Str → Option Value) → Heap → Prop} {d : DefRec} {x : Str} {p : Prg} {P : List (Nat × Fn)} {fuel i : Nat} {b : Bool}
    (hn : l.most = some n) (hn2 : n ≤ sizeLine) (hdf : d.params.defaults = []) (hr : Room (k + 2) callerA) (hP : cFns fuel p.con p.fns p.exs p.cl p.ms = some P) (hf : p.fns.lookup d.name = some (i, b)) (hx : (msAt p.ms i).map (·.ps) = some [x]) (hxp : (p.cl.xi.isEmpty || ((l.prog.main.file == p.file) && !(l.prog.main.scope.names.lookup ("super" : Str)).isSome)) = true)
    (hrun : ∀ ns : List Int, ns.length ≤ n → run P k i [.list (ns.map .int)] = .ok (.bool true)) : PySem.W.WalkO q loose XP (hookM p).says l.row.toRowW d [] (fun f vs => PySem.call f vs) := by
  refine walk_ofE (CX := CXw l.prog) (x := x) hn hn2 hdf hr (fun w mg fa h Y G hmg => ?_) fun H s e s' ⟨w, z⟩ => ?_
  · have XP : XProg l.prog p.file ∨ p.cl.xi = [] := by
      simp only [Bool.or_eq_true, Bool.and_eq_true, Bool.not_eq_true', List.isEmpty_iff] at hxp
      rcases hxp with h | ⟨h1, h2⟩
      · exact .inr h
      · exact .inl ⟨h1, h2⟩
    obtain ⟨K, X, hno, c⟩ := Y
    obtain ⟨m, hm, hmg2⟩ := says_fn c hf X G
    rw [hm] at hx
    have hps : m.ps = [x] := Option.some.inj hx
    rw [hmg] at hmg2
    cases hmg2
    obtain ⟨fd, _, _, hB, hF⟩ := prog_ok hP c hm
    rw [hps] at hB hF
    exact ⟨K, fd, _, X, fun s u => hB s [u] rfl, fun H a ns hl _ hS => law_sp hno hS (hrun ns hl), fun base X' G' => Mp.FnOk.cx (hF XP X' G' k) fun _ _ _ _ _ _ z => ⟨w, z⟩⟩
  · obtain ⟨_, _, _, _, _, _, _, _, _, _, _, _, z⟩ := z
    exact z.elim
end Mp
namespace Mp
open PySem PySem.Spec PyProof.Rows L2
/-! ## steps of the meaning, for simp -/
section
variable {α β : Type} {G : Nat → List D → Out D} {ρ : Rho}
@[simp] theorem ok_bind (a : α) (f : α → Out β) : (Out.ok a).bind f = f a := (rfl)
@[simp] theorem stuck_bind (f : α → Out β) : (Out.stuck : Out α).bind f = .stuck := (rfl)
@[simp] theorem ok_st (a : α) (f : α → SOut) : (Out.ok a).st ρ f = f a := (rfl)
@[simp] theorem stuck_st (f : α → SOut) : (Out.stuck : Out α).st ρ f = .stuck := (rfl)
@[simp] theorem nx_seq (f : Rho → SOut) : (SOut.nx ρ).seq f = f ρ := (rfl)
@[simp] theorem ret_seq (d : D) (f : Rho → SOut) : (SOut.ret d).seq f = .ret d := (rfl)
@[simp] theorem brk_seq (f : Rho → SOut) : (SOut.brk ρ).seq f = .brk ρ := (rfl)
@[simp] theorem ct_seq (f : Rho → SOut) : (SOut.ct ρ).seq f = .ct ρ := (rfl)
@[simp] theorem stuck_seq (f : Rho → SOut) : SOut.stuck.seq f = .stuck := (rfl)
@[simp] theorem nx_fin : (SOut.nx ρ).fin = .ok .none := (rfl)
@[simp] theorem ret_fin (d : D) : (SOut.ret d).fin = .ok d := (rfl)
@[simp] theorem getV_0 (d : D) : getV (some (false, d) :: ρ) 0 = .ok d := (rfl)
@[simp] theorem getV_s (o : Option (Bool × D)) (i : Nat) : getV (o :: ρ) (i + 1) = getV ρ i := (rfl)
@[simp] theorem getB_0 (b : Bool) (d : D) : getB (some (b, d) :: ρ) 0 = .ok d := (rfl)
@[simp] theorem getB_s (o : Option (Bool × D)) (i : Nat) : getB (o :: ρ) (i + 1) = getB ρ i := (rfl)
@[simp] theorem ev_lit (d : D) : ev G (.lit d) ρ = .ok d := (rfl)
@[simp] theorem ev_var (i : Nat) : ev G (.var i) ρ = getV ρ i := (rfl)
@[simp] theorem ev_varB (i : Nat) : ev G (.varB i) ρ = getB ρ i := (rfl)
@[simp] theorem ev_bin (o : BOp) (a b : C) : ev G (.bin o a b) ρ = (ev G a ρ).bind fun x => (ev G b ρ).bind fun y => o.f x y := (rfl)
@[simp] theorem ev_neg (a : C) : ev G (.neg a) ρ = (ev G a ρ).bind negD := (rfl)
@[simp] theorem ev_cmp (o : COp) (a b : C) : ev G (.cmp o a b) ρ = (ev G a ρ).bind fun x => (ev G b ρ).bind fun y => o.f x y := (rfl)
@[simp] theorem ev_chain (o o' : COp) (a b c : C) : ev G (.chain o o' a b c) ρ = (ev G a ρ).bind fun x => (ev G b ρ).bind fun y => chainD x y o.f o'.f (ev G c ρ) := (rfl)
@[simp] theorem ev_not (a : C) : ev G (.not a) ρ = ((ev G a ρ).bind truthD).bind fun k => .ok (.bool (!k)) := (rfl)
@[simp] theorem ev_and (a b : C) : ev G (.and a b) ρ = (ev G a ρ).bind fun d => (truthD d).bind fun k => if k = true then ev G b ρ else .ok d := (rfl)
@[simp] theorem ev_or (a b : C) : ev G (.or a b) ρ = (ev G a ρ).bind fun d => (truthD d).bind fun k => if k = true then .ok d else ev G b ρ := (rfl)
@[simp] theorem ev_ite (t : T) (a b : C) : ev G (.ite t a b) ρ = (evT G t ρ).bind fun k => if k = true then ev G a ρ else ev G b ρ := (rfl)
@[simp] theorem ev_idx (a b : C) : ev G (.idx a b) ρ = (ev G a ρ).bind fun x => (ev G b ρ).bind fun y => idxD x y := (rfl)
@[simp] theorem ev_slice (a : C) (l h : Co) : ev G (.slice a l h) ρ = (ev G a ρ).bind fun x => (evO G l ρ).bind fun l => (evO G h ρ).bind fun h => sliceD x l h := (rfl)
@[simp] theorem ev_sliceK (a : C) (l h k : Co) : ev G (.sliceK a l h k) ρ = (ev G a ρ).bind fun x => (evO G l ρ).bind fun l => (evO G h ρ).bind fun h => (evO G k ρ).bind fun k => sliceK x l h k := (rfl)
@[simp] theorem ev_dEn (e : C) : ev G (.dEn e) ρ = (ev G e ρ).bind enDictD := (rfl)
@[simp] theorem ev_tup (es : Cs) : ev G (.tup es) ρ = (evs G es ρ).bind tupD := (rfl)
@[simp] theorem ev_lst (es : Cs) : ev G (.lst es) ρ = (evs G es ρ).bind lstD := (rfl)
@[simp] theorem ev_dct0 : ev G .dct0 ρ = .ok (.dict []) := (rfl)
@[simp] theorem ev_dsp (es : Cs) : ev G (.dsp es) ρ = (evs G es ρ).bind dispD := (rfl)
@[simp] theorem ev_bi (b : Bi) (es : Cs) : ev G (.bi b es) ρ = (evs G es ρ).bind b.f := (rfl)
@[simp] theorem ev_isi (a : C) (t : String) : ev G (.isi a t) ρ = (ev G a ρ).bind fun d => isiO d t := (rfl)
@[simp] theorem ev_call (f : Nat) (es : Cs) : ev G (.call f es) ρ = (evs G es ρ).bind (G f) := (rfl)
@[simp] theorem ev_callB (f : Nat) (es : Cs) : ev G (.callB f es) ρ = (evs G es ρ).bind (callB (G f)) := (rfl)
@[simp] theorem ev_get2 (o k d : C) : ev G (.get2 o k d) ρ = (ev G o ρ).bind fun x => match x with
      | .dict es => if insB es = true then .stuck else (ev G k ρ).bind fun y => (ev G d ρ).bind fun z => getD2 (.dict es) y z
      | _ => .stuck := (rfl)
@[simp] theorem ev_fld (cs : List Str) (f : Str) (o : C) : ev G (.fld cs f o) ρ = (ev G o ρ).bind (fldD cs f) := (rfl)
@[simp] theorem ev_meth (c m : Str) (i : Nat) (o : C) (es : Cs) : ev G (.meth c m i o es) ρ = (ev G o ρ).bind fun d => if methOk c m d = true then (evs G es ρ).bind fun ds => G i (d :: ds) else .stuck := (rfl)
@[simp] theorem ev_new (c : Str) (n : Nat) (fl : List (Str × Nat)) (es : Cs) : ev G (.new c n fl es) ρ = (evs G es ρ).bind (newD c n fl) := (rfl)
@[simp] theorem ev_lenSet (e : C) : ev G (.lenSet e) ρ = (ev G e ρ).bind lenSetF := (rfl)
@[simp] theorem ev_sortSet (e : C) : ev G (.sortSet e) ρ = (ev G e ρ).bind sortSetG := (rfl)
@[simp] theorem ev_split (o e : C) : ev G (.split o e) ρ = (ev G o ρ).bind fun x => match x with
      | .str a => (ev G e ρ).bind fun y => splitD (.str a) y
      | _ => .stuck := (rfl)
@[simp] theorem ev_join (o e : C) : ev G (.join o e) ρ = (ev G o ρ).bind fun x => match x with
      | .str a => (ev G e ρ).bind fun y => joinD (.str a) y
      | _ => .stuck := (rfl)
@[simp] theorem ev_lc (t : Tg) (it : Ci) (w : Ct) (e : C) (vs : List Nat) : ev G (.lc t it w e vs) ρ = (evI G it ρ).bind fun ds => (noxO (lcL (turnD t (evW G w) (ev G e) (wipeR ρ vs)) ds)).bind lstD := (rfl)
@[simp] theorem ev_dc (t : Tg) (it : Ci) (w : Ct) (k v : C) (vs : List Nat) : ev G (.dc t it w k v vs) ρ = (evI G it ρ).bind fun ds => (noxO (dcL (turnK t (evW G w) (ev G k) (ev G v) (wipeR ρ vs)) ds [])).bind fun es => .ok (.dict es) := (rfl)
@[simp] theorem evs_nil : evs G .nil ρ = .ok [] := (rfl)
@[simp] theorem evs_cons (c : C) (cs : Cs) : evs G (.cons c cs) ρ = (ev G c ρ).bind fun x => (evs G cs ρ).bind fun xs => .ok (x :: xs) := (rfl)
@[simp] theorem evO_no : evO G .no ρ = .ok none := (rfl)
@[simp] theorem evO_yes (c : C) : evO G (.yes c) ρ = (ev G c ρ).bind partD := (rfl)
@[simp] theorem evI_pl (c : C) : evI G (.pl c) ρ = (ev G c ρ).bind itemsD := (rfl)
@[simp] theorem evI_rg1 (c : Cs) : evI G (.rg1 c) ρ = (evs G c ρ).bind range1D := (rfl)
@[simp] theorem evI_rg2 (c : Cs) : evI G (.rg2 c) ρ = (evs G c ρ).bind range2D := (rfl)
@[simp] theorem evI_plK (i : Nat) : evI G (.plK i) ρ = (getV ρ i).bind itemsK := (rfl)
@[simp] theorem evI_zip (c : Cs) : evI G (.zip c) ρ = (evs G c ρ).bind zipD := (rfl)
@[simp] theorem evI_enum (c : Cs) : evI G (.enum c) ρ = (evs G c ρ).bind enumD2 := (rfl)
@[simp] theorem evW_no : evW G .no ρ = .ok true := (rfl)
@[simp] theorem evW_yes (t : T) : evW G (.yes t) ρ = evT G t ρ := (rfl)
@[simp] theorem evT_tr (c : C) : evT G (.tr c) ρ = (ev G c ρ).bind truthD := (rfl)
@[simp] theorem evT_cmp (o : COp) (a b : C) : evT G (.cmp o a b) ρ = ((ev G a ρ).bind fun x => (ev G b ρ).bind fun y => o.f x y).bind boolD := (rfl)
@[simp] theorem evT_chain (o o' : COp) (a b c : C) : evT G (.chain o o' a b c) ρ = ((ev G a ρ).bind fun x => (ev G b ρ).bind fun y => chainD x y o.f o'.f (ev G c ρ)).bind boolD := (rfl)
@[simp] theorem evT_not (t : T) : evT G (.not t) ρ = (evT G t ρ).bind fun k => .ok (!k) := (rfl)
@[simp] theorem evT_and (a b : T) : evT G (.and a b) ρ = (evT G a ρ).bind fun k => if k = true then evT G b ρ else .ok false := (rfl)
@[simp] theorem evT_or (a b : T) : evT G (.or a b) ρ = (evT G a ρ).bind fun k => if k = true then .ok true else evT G b ρ := (rfl)
@[simp] theorem evT_ite (t a b : T) : evT G (.ite t a b) ρ = (evT G t ρ).bind fun k => if k = true then evT G a ρ else evT G b ρ := (rfl)
@[simp] theorem ex_set (i : Nat) (e : C) : ex G (.set i e) ρ = (ev G e ρ).st ρ fun d => .nx (ρ.set i (some (false, d))) := (rfl)
@[simp] theorem ex_setF (i : Nat) (e : C) : ex G (.setF i e) ρ = (ev G e ρ).st ρ fun d => .nx (ρ.set i (some (true, d))) := (rfl)
@[simp] theorem ex_asg (t : Tg) (e : C) : ex G (.asg t e) ρ = (ev G e ρ).st ρ (bindS t ρ) := (rfl)
@[simp] theorem ex_par (ts : List Tg) (es : Cs) : ex G (.par ts es) ρ = (evs G es ρ).st ρ (bindsS ts ρ) := (rfl)
@[simp] theorem ex_app (i : Nat) (e : C) : ex G (.app i e) ρ = if ownL i ρ = true then (ev G e ρ).st ρ (appD i ρ) else .stuck := (rfl)
@[simp] theorem ex_ext (i : Nat) (e : C) : ex G (.ext i e) ρ = if ownL i ρ = true then (ev G e ρ).st ρ (extD i ρ) else .stuck := (rfl)
@[simp] theorem ex_put (i : Nat) (k v : C) : ex G (.put i k v) ρ = match isOwn i ρ with
      | some _ => (ev G v ρ).st ρ fun v => (ev G k ρ).st ρ fun k => putS i ρ k v
      | none => .stuck := (rfl)
@[simp] theorem ex_aug (i : Nat) (o : Operator) (e : C) : ex G (.aug i o e) ρ = match getV ρ i with
      | .ok d => (ev G e ρ).st ρ fun y => (augD o d y).st ρ (setV i ρ)
      | _ => .stuck := (rfl)
@[simp] theorem ex_exp (e : C) : ex G (.exp e) ρ = (ev G e ρ).st ρ fun _ => .nx ρ := (rfl)
@[simp] theorem ex_ret (e : C) : ex G (.ret e) ρ = (ev G e ρ).st ρ .ret := (rfl)
@[simp] theorem ex_retN : ex G .retN ρ = .ret .none := (rfl)
@[simp] theorem ex_ite (t : T) (a b : Ss) : ex G (.ite t a b) ρ = (evT G t ρ).st ρ fun k => if k = true then exs G a ρ else exs G b ρ := (rfl)
@[simp] theorem ex_for (t : Tg) (it : Ci) (b : Ss) : ex G (.for_ t it b) ρ = (evI G it ρ).st ρ fun ds => forL t (exs G b) ds ρ := (rfl)
@[simp] theorem ex_whl (t : T) (b : Ss) : ex G (.whl t b) ρ = whileR (evT G t) (exs G b) ρ := (rfl)
@[simp] theorem ex_pass : ex G .pass ρ = .nx ρ := (rfl)
@[simp] theorem ex_brk : ex G .brk ρ = .brk ρ := (rfl)
@[simp] theorem ex_ct : ex G .ct ρ = .ct ρ := (rfl)
@[simp] theorem ex_never : ex G .never ρ = .stuck := (rfl)
@[simp] theorem ex_rais (c : Str) : ex G (.rais c) ρ = .exc c [] ρ := (rfl)
@[simp] theorem ex_raisX (c f : Str) (e : C) : ex G (.raisX c f e) ρ = (ev G e ρ).st ρ fun d => if okXd d = true then .exc c [(f, d)] ρ else .stuck := (rfl)
@[simp] theorem ex_try (b : Ss) (hs : List Hd) : ex G (.try_ b hs) ρ = (exs G b ρ).hnd hs := (rfl)
@[simp] theorem ex_setA (i : Nat) (c : C) : ex G (.setA i c) ρ = (ev G c ρ).st ρ (sumD i ρ) := (rfl)
@[simp] theorem ex_lend (is : List Nat) (i : Nat) (c : C) : ex G (.lend is i c) ρ = (ev G c (dem is ρ)).st ρ (lendD i is ρ) := (rfl)
@[simp] theorem ex_lite (is : List Nat) (t : T) (a b : Ss) : ex G (.lite is t a b) ρ = (evT G t (dem is ρ)).st ρ fun k => if k = true then exs G a ρ else exs G b ρ := (rfl)
@[simp] theorem ex_dem (is : List Nat) (s : S) : ex G (.dem is s) ρ = ex G s (dem is ρ) := (rfl)
@[simp] theorem exs_nil : exs G .nil ρ = .nx ρ := (rfl)
@[simp] theorem exs_cons (s : S) (ss : Ss) : exs G (.cons s ss) ρ = (ex G s ρ).seq (exs G ss) := (rfl)
@[simp] theorem dem_nil : dem [] ρ = ρ := (rfl)
@[simp] theorem dem_cons (i : Nat) (is : List Nat) : dem (i :: is) ρ = dem is (dem1 i ρ) := (rfl)
/-- by places -/
def demF : Nat → Rho → Rho
  | _, [] => []
  | 0, some (_, d) :: ρ => some (false, d) :: ρ
  | 0, none :: ρ => none :: ρ
  | i + 1, o :: ρ => o :: demF i ρ
@[simp] theorem demF_0s (b : Bool) (d : D) : demF 0 (some (b, d) :: ρ) = some (false, d) :: ρ := by simp [demF]
@[simp] theorem demF_0n : demF 0 (none :: ρ) = none :: ρ := by simp [demF]
@[simp] theorem demF_s (i : Nat) (o : Option (Bool × D)) : demF (i + 1) (o :: ρ) = o :: demF i ρ := by simp [demF]
@[simp] theorem dem1_eq (i : Nat) : dem1 i ρ = demF i ρ := by
  induction ρ generalizing i with
  | nil => simp [dem1, demF]
  | cons o ρ ih =>
    cases i with
    | zero =>
      cases o with
      | none => simp [dem1]
      | some q =>
        obtain ⟨b, d⟩ := q
        cases b <;> simp [dem1]
    | succ i =>
      have := ih i
      unfold dem1 at this ⊢
      rw [List.getElem?_cons_succ, demF_s, ← this]
      cases ρ[i]? with
      | none => rfl
      | some q =>
        cases q with
        | none => rfl
        | some q =>
          obtain ⟨b, d⟩ := q
          cases b <;> rfl
@[simp] theorem wipe_nil : wipeR ρ [] = ρ := (rfl)
@[simp] theorem wipe_cons (v : Nat) (vs : List Nat) : wipeR ρ (v :: vs) = (wipeR ρ vs).set v none := (rfl)
@[simp] theorem bindT_nm (i : Nat) (d : D) : bindT (.nm i) d ρ = some (ρ.set i (some (false, d))) := by simp [bindT]
@[simp] theorem bindT_tup (ts : List Tg) (ds : List D) : bindT (.tup ts) (.tuple ds) ρ = bindTs ts ds ρ := by simp [bindT]
@[simp] theorem bindTs_nil : bindTs [] [] ρ = some ρ := by simp [bindTs]
@[simp] theorem bindTs_cons (t : Tg) (ts : List Tg) (d : D) (ds : List D) : bindTs (t :: ts) (d :: ds) ρ = (bindT t d ρ).bind fun ρ' => bindTs ts ds ρ' := by simp [bindTs]
@[simp] theorem bindS_eq (t : Tg) (d : D) : bindS t ρ d = match bindT t d ρ with
  | some ρ' => .nx ρ'
  | none => .stuck := (rfl)
@[simp] theorem bindsS_eq (t : List Tg) (d : List D) : bindsS t ρ d = match bindTs t d ρ with
  | some ρ' => .nx ρ'
  | none => .stuck := (rfl)
@[simp] theorem forL_nil (t : Tg) (fb : Rho → SOut) : forL t fb [] ρ = .nx ρ := (rfl)
@[simp] theorem ownL_0 (ds : List D) : ownL 0 (some (true, .list ds) :: ρ) = true := (rfl)
@[simp] theorem ownL_s (i : Nat) (o : Option (Bool × D)) : ownL (i + 1) (o :: ρ) = ownL i ρ := (rfl)
@[simp] theorem isIns_list (ds : List D) : isIns (.list ds) = false := (rfl)
@[simp] theorem isIns_dict (es : List (D × D)) : isIns (.dict es) = insB es := (rfl)
@[simp] theorem isOwn_0 (d : D) : isOwn 0 (some (true, d) :: ρ) = if isIns d = true then none else some d := (rfl)
@[simp] theorem isOwn_s (i : Nat) (o : Option (Bool × D)) : isOwn (i + 1) (o :: ρ) = isOwn i ρ := (rfl)
theorem appD_at {i : Nat} {ds : List D} (d : D) (h : isOwn i ρ = some (.list ds)) (hz : ds.length < sizeLine) : appD i ρ d = .nx (ρ.set i (some (true, .list (ds ++ [d])))) := by
  unfold isOwn at h
  unfold appD
  split at h
  · rename_i q
    split at h
    · cases h
    cases h
    simp only [q]
    exact if_pos hz
  · cases h
theorem putS_at {i : Nat} {d d' : D} (k v : D) (h : isOwn i ρ = some d) (hz : putD d k v = some d') : putS i ρ k v = .nx (ρ.set i (some (true, d'))) := by
  unfold isOwn at h
  unfold putS
  split at h
  · rename_i q
    split at h
    · cases h
    cases h
    simp only [q, hz]
  · cases h
end
/-! ## loops -/
theorem lcL_ok {g : D → Out (Option D)} {h : D → Option D} : ∀ {ds : List D}, (∀ d ∈ ds, g d = .ok (h d)) → lcL g ds = .ok (ds.filterMap h)
  | [], _ => rfl
  | d :: ds, hg => by
    unfold lcL
    rw [hg d (List.mem_cons_self ..), lcL_ok (h := h) fun e he => hg e (List.mem_cons_of_mem _ he), List.filterMap_cons]
    cases h d <;> rfl
theorem lcL_map {g : D → Out (Option D)} {h : D → D} {ds : List D} (hg : ∀ d ∈ ds, g d = .ok (some (h d))) : lcL g ds = .ok (ds.map h) := by
  rw [lcL_ok (h := fun d => some (h d)) hg]
  congr 1
  induction ds with
  | nil => rfl
  | cons d ds ih =>
    rw [List.filterMap_cons, List.map_cons]
    rw [ih fun e he => hg e (List.mem_cons_of_mem _ he)]
/-- over the images of xs -/
theorem lcL_of {α : Type} {g : D → Out (Option D)} {f : α → D} {h : α → D} {xs : List α} (hg : ∀ x ∈ xs, g (f x) = .ok (some (h x))) : lcL g (xs.map f) = .ok (xs.map h) := by
  induction xs with
  | nil => rfl
  | cons x xs ih =>
    rw [List.map_cons, List.map_cons]
    unfold lcL
    rw [hg x (List.mem_cons_self ..), ih fun e he => hg e (List.mem_cons_of_mem _ he)]
    rfl
theorem lcL_ofIf {α : Type} {g : D → Out (Option D)} {f : α → D} {h : α → Option D} {xs : List α} (hg : ∀ x ∈ xs, g (f x) = .ok (h x)) : lcL g (xs.map f) = .ok (xs.filterMap h) := by
  induction xs with
  | nil => rfl
  | cons x xs ih =>
    rw [List.map_cons, List.filterMap_cons]
    unfold lcL
    rw [hg x (List.mem_cons_self ..), ih fun e he => hg e (List.mem_cons_of_mem _ he)]
    cases h x <;> rfl
@[simp] theorem noxO_ok {α : Type} (a : α) : noxO (Out.ok a) = .ok a := (rfl)
/-- a for loop with an invariant on what is left and the slots -/
theorem forL_inv {t : Tg} {fb : Rho → SOut} (Inv : List D → Rho → Prop) : ∀ {ds : List D} {ρ : Rho}, Inv ds ρ →
    (∀ d ds ρ, Inv (d :: ds) ρ → ∃ ρ1 ρ2, bindT t d ρ = some ρ1 ∧ (fb ρ1 = .nx ρ2 ∨ fb ρ1 = .ct ρ2) ∧ Inv ds ρ2) → ∃ ρ', forL t fb ds ρ = .nx ρ' ∧ Inv [] ρ'
  | [], ρ, h, _ => ⟨ρ, rfl, h⟩
  | d :: ds, ρ, h, hs => by
    obtain ⟨ρ1, ρ2, h1, h2, h3⟩ := hs d ds ρ h
    obtain ⟨ρ', h4, h5⟩ := forL_inv Inv h3 hs
    refine ⟨ρ', ?_, h5⟩
    unfold forL
    rw [h1]
    rcases h2 with h2 | h2
    · show (match fb ρ1 with
        | .nx ρ2 => forL t fb ds ρ2
        | .ct ρ2 => forL t fb ds ρ2
        | .brk ρ2 => .nx ρ2
        | .ret d => .ret d
        | .exc c fs ρ2 => .exc c fs ρ2
        | .stuck => .stuck) = _
      rw [h2]
      exact h4
    · show (match fb ρ1 with
        | .nx ρ2 => forL t fb ds ρ2
        | .ct ρ2 => forL t fb ds ρ2
        | .brk ρ2 => .nx ρ2
        | .ret d => .ret d
        | .exc c fs ρ2 => .exc c fs ρ2
        | .stuck => .stuck) = _
      rw [h2]
      exact h4
theorem forL_cons_nx {t : Tg} {fb : Rho → SOut} {d : D} {ds : List D} {ρ ρ1 ρ2 : Rho} (h1 : bindT t d ρ = some ρ1) (h2 : fb ρ1 = .nx ρ2) : forL t fb (d :: ds) ρ = forL t fb ds ρ2 := by
  rw [forL, h1]
  show (match fb ρ1 with
        | .nx ρ2 => forL t fb ds ρ2
        | .ct ρ2 => forL t fb ds ρ2
        | .brk ρ2 => .nx ρ2
        | .ret d => .ret d
        | .exc c fs ρ2 => .exc c fs ρ2
        | .stuck => .stuck) = _
  rw [h2]
theorem dcL_fold {α : Type} {g : D → Out (Option (D × D))} {f : α → D} {k : α → D} {key : α → Key} {v : α → D} : ∀ {xs : List α} {es : List (D × D)}, (∀ x ∈ xs, g (f x) = .ok (some (k x, v x)) ∧ keyOf (k x) = some (key x)) → es.length + xs.length ≤ sizeLine →
    dcL g (xs.map f) es = .ok (xs.foldl (fun es x => putE es (key x) (v x)) es)
  | [], es, _, _ => rfl
  | x :: xs, es, hg, hl => by
    rw [List.length_cons] at hl
    rw [List.map_cons, List.foldl_cons]
    unfold dcL
    obtain ⟨h1, h2⟩ := hg x (List.mem_cons_self ..)
    rw [h1, ok_bind]
    show (match keyOf (k x) with
      | some k => if es.length < sizeLine then dcL g (xs.map f) (putE es k (v x)) else .stuck
      | none => .stuck) = _
    rw [h2]
    show (if es.length < sizeLine then dcL g (xs.map f) (putE es (key x) (v x)) else .stuck) = _
    rw [if_pos (by omega)]
    exact dcL_fold (fun y hy => hg y (List.mem_cons_of_mem _ hy)) (by have := putE_length es (key x) (v x); omega)
/-- a while loop: a measure falls until the test fails -/
theorem whileR_ok {fc : Rho → Out Bool} {fb : Rho → SOut} (Inv : Rho → Prop) (μ : Rho → Nat) (Q : Rho → Prop) (hs : ∀ ρ, Inv ρ → (fc ρ = .ok false ∧ Q ρ) ∨ (fc ρ = .ok true ∧ ∃ ρ2, (fb ρ = .nx ρ2 ∨ fb ρ = .ct ρ2) ∧ Inv ρ2 ∧ μ ρ2 < μ ρ)) {ρ : Rho} (h : Inv ρ) :
    ∃ ρ', whileR fc fb ρ = .nx ρ' ∧ Q ρ' := by
  have key : ∀ n ρ, Inv ρ → μ ρ < n → ∃ ρ', whileF fc fb n ρ = .nx ρ' ∧ Q ρ' := by
    intro n
    induction n with
    | zero => exact fun ρ _ hm => absurd hm (Nat.not_lt_zero _)
    | succ n ih =>
      intro ρ hi hm
      rcases hs ρ hi with ⟨h1, h2⟩ | ⟨h1, ρ2, h2, h3, h4⟩
      · refine ⟨ρ, ?_, h2⟩
        unfold whileF
        rw [h1]
        rfl
      · obtain ⟨ρ', h5, h6⟩ := ih ρ2 h3 (by omega)
        refine ⟨ρ', ?_, h6⟩
        unfold whileF
        rw [h1]
        rcases h2 with h2 | h2
        · simp only [ok_st, if_true, h2]
          exact h5
        · simp only [ok_st, if_true, h2]
          exact h5
  obtain ⟨ρ', h1, h2⟩ := key (μ ρ + 1) ρ h (Nat.lt_succ_self _)
  exact ⟨ρ', by rw [whileR_eq (n := μ ρ + 1) (by rw [h1]; exact fun z => nomatch z), h1], h2⟩
theorem run_at {P : List (Nat × Fn)} {i : Nat} {fn : Fn} {ds : List D} (h : P.lookup i = some fn) (hl : ds.length = fn.np) (n : Nat) : run P (n + 1) i ds = (exs (run P n) fn.body (rho0 fn.nn ds)).fin := by
  unfold run
  rw [h]
  exact if_pos hl
/-! ## values -/
@[simp] theorem addD_int (i j : Int) : addD (.int i) (.int j) = .ok (.int (i + j)) := (rfl)
@[simp] theorem subD_int (i j : Int) : subD (.int i) (.int j) = .ok (.int (i - j)) := (rfl)
@[simp] theorem negD_int (i : Int) : negD (.int i) = .ok (.int (-i)) := (rfl)
@[simp] theorem f_add : BOp.f .add = addD := (rfl)
@[simp] theorem f_sub : BOp.f .sub = subD := (rfl)
@[simp] theorem f_mul : BOp.f .mul = mulD := (rfl)
@[simp] theorem f_fdiv : BOp.f .fdiv = fdivD := (rfl)
@[simp] theorem f_mod : BOp.f .mod = modD := (rfl)
@[simp] theorem f_pow : BOp.f .pow = powD := (rfl)
@[simp] theorem o_eq : COp.f .eq = eqD := (rfl)
@[simp] theorem o_ne : COp.f .ne = neD := (rfl)
@[simp] theorem o_lt : COp.f .lt = ltD := (rfl)
@[simp] theorem o_gt : COp.f .gt = gtD := (rfl)
@[simp] theorem o_le : COp.f .le = leD := (rfl)
@[simp] theorem o_ge : COp.f .ge = geD := (rfl)
@[simp] theorem o_isN : COp.f .isN = isND := (rfl)
@[simp] theorem o_notN : COp.f .notN = notND := (rfl)
@[simp] theorem o_in : COp.f .inn = inD := (rfl)
@[simp] theorem o_out : COp.f .out = notInD := (rfl)
theorem mul_small {i j : Int} (h : smallI i = true ∨ smallI j = true) : mulD (.int i) (.int j) = .ok (.int (i * j)) := by
  have : (smallI i || smallI j) = true := by simpa using h
  exact if_pos this
@[simp] theorem ltD_int (i j : Int) : ltD (.int i) (.int j) = .ok (.bool (decide (i < j))) := (rfl)
@[simp] theorem gtD_int (i j : Int) : gtD (.int i) (.int j) = .ok (.bool (decide (j < i))) := (rfl)
@[simp] theorem leD_int (i j : Int) : leD (.int i) (.int j) = .ok (.bool (decide (i ≤ j))) := (rfl)
@[simp] theorem geD_int (i j : Int) : geD (.int i) (.int j) = .ok (.bool (decide (j ≤ i))) := (rfl)
@[simp] theorem eqD_int (i j : Int) : eqD (.int i) (.int j) = .ok (.bool (i == j)) := by
  simp [eqD, fitD, PyData.eqv]
@[simp] theorem neD_int (i j : Int) : neD (.int i) (.int j) = .ok (.bool (!(i == j))) := by
  simp [neD, fitD, PyData.eqv]
@[simp] theorem truthD_bool (b : Bool) : truthD (.bool b) = .ok b := (rfl)
@[simp] theorem boolD_bool (b : Bool) : boolD (.bool b) = .ok b := (rfl)
@[simp] theorem truthD_int (i : Int) : truthD (.int i) = .ok (i != 0) := (rfl)
@[simp] theorem truthD_non : truthD .none = .ok false := (rfl)
@[simp] theorem truthD_list (ds : List D) : truthD (.list ds) = .ok (!ds.isEmpty) := (rfl)
@[simp] theorem truthD_tup (ds : List D) : truthD (.tuple ds) = .ok (!ds.isEmpty) := (rfl)
@[simp] theorem isi_int (i : Int) (c : String) : isiB (.int i) c = (c == "int" || c == "object") := (rfl)
@[simp] theorem isi_bool (i : Bool) (c : String) : isiB (.bool i) c = (c == "bool" || c == "int" || c == "object") := (rfl)
@[simp] theorem isi_str (i : Str) (c : String) : isiB (.str i) c = (c == "str" || c == "object") := (rfl)
@[simp] theorem isi_tup (i : List D) (c : String) : isiB (.tuple i) c = (c == "tuple" || c == "object") := (rfl)
@[simp] theorem isi_list (i : List D) (c : String) : isiB (.list i) c = (c == "list" || c == "object") := (rfl)
@[simp] theorem isi_dict (i : List (D × D)) (c : String) : isiB (.dict i) c = (c == "dict" || c == "object") := (rfl)
@[simp] theorem isi_non (c : String) : isiB .none c = (c == "NoneType" || c == "object") := (rfl)
@[simp] theorem isiO_int (i : Int) (c : String) : isiO (.int i) c = .ok (.bool (c == "int" || c == "object")) := (rfl)
@[simp] theorem isiO_bool (i : Bool) (c : String) : isiO (.bool i) c = .ok (.bool (c == "bool" || c == "int" || c == "object")) := (rfl)
@[simp] theorem isiO_str (i : Str) (c : String) : isiO (.str i) c = .ok (.bool (c == "str" || c == "object")) := (rfl)
@[simp] theorem isiO_tup (i : List D) (c : String) : isiO (.tuple i) c = .ok (.bool (c == "tuple" || c == "object")) := (rfl)
@[simp] theorem isiO_list (i : List D) (c : String) : isiO (.list i) c = .ok (.bool (c == "list" || c == "object")) := (rfl)
@[simp] theorem isiO_non (c : String) : isiO .none c = .ok (.bool (c == "NoneType" || c == "object")) := (rfl)
@[simp] theorem items_list (ds : List D) : itemsD (.list ds) = .ok ds := (rfl)
@[simp] theorem items_tup (ds : List D) : itemsD (.tuple ds) = .ok ds := (rfl)
@[simp] theorem items_str (z : Str) : itemsD (.str z) = .ok (strItems z) := (rfl)
@[simp] theorem bf_len (d : D) : Bi.f .len [d] = lenF d := (rfl)
@[simp] theorem bf_abs (d : D) : Bi.f .abs [d] = absF d := (rfl)
@[simp] theorem bf_int (d : D) : Bi.f .int [d] = intF d := (rfl)
@[simp] theorem bf_sum (d : D) : Bi.f .sum [d] = sumF d := (rfl)
@[simp] theorem bf_all (d : D) : Bi.f .all [d] = allF d := (rfl)
@[simp] theorem bf_any (d : D) : Bi.f .any [d] = anyF d := (rfl)
@[simp] theorem bf_tuple (d : D) : Bi.f .tuple [d] = tupleF d := (rfl)
@[simp] theorem bf_list (d : D) : Bi.f .list [d] = listF d := (rfl)
@[simp] theorem bf_dict (d : D) : Bi.f .dict [d] = dictF d := (rfl)
@[simp] theorem bf_sorted (d : D) : Bi.f .sorted [d] = sortedF d := (rfl)
@[simp] theorem bf_max (d : D) : Bi.f .max [d] = maxF d := (rfl)
@[simp] theorem bf_min (d : D) : Bi.f .min [d] = minF d := (rfl)
@[simp] theorem len_list (ds : List D) : lenF (.list ds) = .ok (.int ds.length) := (rfl)
@[simp] theorem len_tup (ds : List D) : lenF (.tuple ds) = .ok (.int ds.length) := (rfl)
@[simp] theorem abs_int (i : Int) : absF (.int i) = .ok (.int (if i < 0 then -i else i)) := (rfl)
@[simp] theorem int_int (i : Int) : intF (.int i) = .ok (.int i) := (rfl)
@[simp] theorem tuple_list (ds : List D) : tupleF (.list ds) = .ok (.tuple ds) := (rfl)
@[simp] theorem tuple_tup (ds : List D) : tupleF (.tuple ds) = .ok (.tuple ds) := (rfl)
@[simp] theorem list_list (ds : List D) : listF (.list ds) = .ok (.list ds) := (rfl)
@[simp] theorem list_tup (ds : List D) : listF (.tuple ds) = .ok (.list ds) := (rfl)
@[simp] theorem sum_ints (ns : List Int) : sumF (.list (ns.map .int)) = .ok (.int ns.sum) := by
  simp [sumF, overInts, intsOf_map]
@[simp] theorem all_bls (ns : List Bool) : allF (.list (ns.map .bool)) = .ok (.bool (ns.all id)) := by
  simp [allF, overBls, blsOf_map]
@[simp] theorem any_bls (ns : List Bool) : anyF (.list (ns.map .bool)) = .ok (.bool (ns.any id)) := by
  simp [anyF, overBls, blsOf_map]
theorem tupD_ok {ds : List D} (h : ds.length ≤ sizeLine) : tupD ds = .ok (.tuple ds) := if_pos h
theorem lstD_ok {ds : List D} (h : ds.length ≤ sizeLine) : lstD ds = .ok (.list ds) := if_pos h
@[simp] theorem tupD_nil : tupD [] = .ok (.tuple []) := tupD_ok (by decide)
@[simp] theorem tupD_1 (a : D) : tupD [a] = .ok (.tuple [a]) := tupD_ok (by show 1 ≤ sizeLine; decide)
@[simp] theorem tupD_2 (a b : D) : tupD [a, b] = .ok (.tuple [a, b]) := tupD_ok (by show 2 ≤ sizeLine; decide)
@[simp] theorem tupD_3 (a b c : D) : tupD [a, b, c] = .ok (.tuple [a, b, c]) := tupD_ok (by show 3 ≤ sizeLine; decide)
@[simp] theorem lstD_nil : lstD [] = .ok (.list []) := lstD_ok (by decide)
@[simp] theorem lstD_1 (a : D) : lstD [a] = .ok (.list [a]) := lstD_ok (by show 1 ≤ sizeLine; decide)
@[simp] theorem lstD_2 (a b : D) : lstD [a, b] = .ok (.list [a, b]) := lstD_ok (by show 2 ≤ sizeLine; decide)
@[simp] theorem lstD_3 (a b c : D) : lstD [a, b, c] = .ok (.list [a, b, c]) := lstD_ok (by show 3 ≤ sizeLine; decide)
@[simp] theorem idx_t0 (a : D) (ds : List D) : idxD (.tuple (a :: ds)) (.int 0) = .ok a := by
  simp [idxD, atI, ixN]
@[simp] theorem idx_t1 (a b : D) (ds : List D) : idxD (.tuple (a :: b :: ds)) (.int 1) = .ok b := by
  have h : (1 : Int) < (ds.length : Int) + 1 + 1 := by omega
  simp [idxD, atI, ixN, h]
theorem idx_list {ds : List D} {i : Nat} {d : D} (h : ds[i]? = some d) : idxD (.list ds) (.int i) = .ok d := by
  have hi := (List.getElem?_eq_some_iff.mp h).1
  have e : ixN ds.length (i : Int) = some i := by
    unfold ixN
    simp [hi]
  simp [idxD, atI, e, h]
/-! ## dicts of ints by texts -/
def strE (es : List (Str × Int)) : List (D × D) := es.map fun p => (.str p.1, .int p.2)
@[simp] theorem insB_strE (es : List (Str × Int)) : insB (strE es) = false := by
  cases es <;> rfl
@[simp] theorem insB_nil : insB [] = false := (rfl)
@[simp] theorem insB_str (x : Str) (v : D) (es : List (D × D)) : insB ((.str x, v) :: es) = false := (rfl)
@[simp] theorem insB_ins (x : Str) (v : D) (es : List (D × D)) : insB ((.tuple [.str x], v) :: es) = true := (rfl)
@[simp] theorem itemsK_dict (es : List (D × D)) : itemsK (.dict es) = if insB es = true then .stuck else .ok (keysD es) := (rfl)
@[simp] theorem itemsK_list (ds : List D) : itemsK (.list ds) = .ok ds := (rfl)
@[simp] theorem itemsK_tup (ds : List D) : itemsK (.tuple ds) = .ok ds := (rfl)
def putA (es : List (Str × Int)) (k : Str) (v : Int) : List (Str × Int) := if (es.any fun p => p.1 == k) = true then es.map (fun p => if (p.1 == k) = true then (p.1, v) else p) else es ++ [(k, v)]
theorem keyOf_str (x : Str) : keyOf (.str x) = some (.inr x) := rfl
theorem put_strE (es : List (Str × Int)) (k : Str) (v : Int) : putE (strE es) (.inr k) (.int v) = strE (putA es k v) := by
  have e1 : (strE es).any (fun p => decide (keyOf p.1 = some (.inr k))) = es.any fun p => p.1 == k := by
    unfold strE
    rw [List.any_map]
    congr 1
    funext p
    simp [Function.comp, keyOf_str]
    by_cases h : p.1 = k <;> simp [h]
  unfold putE putA
  rw [e1]
  split
  · unfold strE
    rw [List.map_map, List.map_map]
    congr 1
    funext p
    simp only [Function.comp, keyOf_str]
    by_cases h : p.1 = k
    · simp [h]
    · have : ¬ (some (Sum.inr p.1) = (some (Sum.inr k) : Option Key)) := by
        intro z
        cases z
        exact h rfl
      simp [h]
  · unfold strE
    rw [List.map_append]
    rfl
theorem look_strE (es : List (Str × Int)) (k : Str) : lookE (strE es) (.inr k) = (es.lookup k).map .int := by
  induction es with
  | nil => rfl
  | cons p es ih =>
    obtain ⟨x, v⟩ := p
    unfold lookE strE at *
    rw [List.map_cons, List.find?_cons, List.lookup_cons]
    by_cases h : x = k
    · subst h
      simp [keyOf_str]
    · have h1 : (decide (keyOf (PyData.str x) = some (Sum.inr k))) = false := by
        refine decide_eq_false fun z => ?_
        rw [keyOf_str] at z
        exact h (Sum.inr.inj (Option.some.inj z))
      have h2 : (k == x) = false := by
        simp only [beq_eq_false_iff_ne]
        exact fun z => h z.symm
      rw [h1, h2]
      exact ih
theorem keys_strE (es : List (Str × Int)) : keyStrs (strE es) = some (es.map (·.1)) := by
  induction es with
  | nil => rfl
  | cons p es ih =>
    unfold strE at *
    rw [List.map_cons]
    show (keyStrs (es.map _)).map (p.1 :: ·) = _
    rw [ih]
    rfl
/-! ## loops by places -/
theorem forL_idx {t : Tg} {fb : Rho → SOut} (Inv : Nat → Rho → Prop) {ds : List D} {ρ : Rho} (h0 : Inv 0 ρ)
    (hs : ∀ k d ρ, ds[k]? = some d → Inv k ρ → ∃ ρ1 ρ2, bindT t d ρ = some ρ1 ∧ (fb ρ1 = .nx ρ2 ∨ fb ρ1 = .ct ρ2) ∧ Inv (k + 1) ρ2) : ∃ ρ', forL t fb ds ρ = .nx ρ' ∧ Inv ds.length ρ' := by
  obtain ⟨ρ', e, k, h1, h2, h3⟩ := forL_inv (t := t) (fb := fb) (fun l ρ => ∃ k, k ≤ ds.length ∧ l = ds.drop k ∧ Inv k ρ) (ds := ds) (ρ := ρ) ⟨0, Nat.zero_le _, rfl, h0⟩ fun d l ρ ⟨k, h1, h2, h3⟩ => by
    have hk : k < ds.length := by
      by_cases h : k < ds.length
      · exact h
      · rw [List.drop_eq_nil_of_le (by omega)] at h2
        cases h2
    rw [List.drop_eq_getElem_cons hk] at h2
    injection h2 with h4 h5
    obtain ⟨ρ1, ρ2, g1, g2, g3⟩ := hs k d ρ (by rw [h4]; exact List.getElem?_eq_getElem hk) h3
    exact ⟨ρ1, ρ2, g1, g2, k + 1, hk, h5, g3⟩
  refine ⟨ρ', e, ?_⟩
  have hk : ds.length ≤ k := by
    have := congrArg List.length h2
    rw [List.length_drop, List.length_nil] at this
    omega
  have : k = ds.length := by omega
  rw [← this]
  exact h3
theorem rangeI_len (lo : Int) (n : Nat) : (rangeI lo n).length = n := by simp [rangeI]
theorem rangeI_get {lo : Int} {n k : Nat} {d : D} (h : (rangeI lo n)[k]? = some d) : k < n ∧ d = .int (lo + (k : Int)) := by
  have hk := (List.getElem?_eq_some_iff.mp h).1
  rw [rangeI_len] at hk
  refine ⟨hk, ?_⟩
  unfold rangeI at h
  rw [List.getElem?_map, List.getElem?_range hk] at h
  exact (Option.some.inj h).symm
theorem forL_range {t : Tg} {fb : Rho → SOut} (Inv : Nat → Rho → Prop) {n : Nat} {ρ : Rho} (h0 : Inv 0 ρ)
    (hs : ∀ k ρ, k < n → Inv k ρ → ∃ ρ1 ρ2, bindT t (.int (k : Nat)) ρ = some ρ1 ∧ (fb ρ1 = .nx ρ2 ∨ fb ρ1 = .ct ρ2) ∧ Inv (k + 1) ρ2) : ∃ ρ', forL t fb (rangeI 0 n) ρ = .nx ρ' ∧ Inv n ρ' := by
  obtain ⟨ρ', e, h⟩ := forL_idx (t := t) (fb := fb) Inv (ds := rangeI 0 n) h0 fun k d ρ hd hi => by
    obtain ⟨h1, h2⟩ := rangeI_get hd
    rw [Int.zero_add] at h2
    subst h2
    exact hs k ρ h1 hi
  rw [rangeI_len] at h
  exact ⟨ρ', e, h⟩
theorem lcL_range {g : D → Out (Option D)} {h : Nat → D} {lo : Int} {n : Nat} (hg : ∀ k, k < n → g (.int (lo + (k : Nat))) = .ok (some (h k))) : lcL g (rangeI lo n) = .ok ((List.range n).map h) :=
  lcL_of fun k hk => hg k (List.mem_range.mp hk)
theorem idx_get {α : Type} {f : α → D} {xs : List α} {i : Int} (h0 : 0 ≤ i) (h1 : i < (xs.length : Nat)) : ∃ x ∈ xs, xs[i.toNat]? = some x ∧ idxD (.list (xs.map f)) (.int i) = .ok (f x) := by
  have hk : i.toNat < xs.length := by omega
  refine ⟨xs[i.toNat], List.getElem_mem hk, List.getElem?_eq_getElem hk, ?_⟩
  have e : ((i.toNat : Nat) : Int) = i := Int.toNat_of_nonneg h0
  have := idx_list (ds := xs.map f) (i := i.toNat) (d := f xs[i.toNat]) (by rw [List.getElem?_map, List.getElem?_eq_getElem hk]; rfl)
  rw [e] at this
  exact this
theorem idx_tup {ds : List D} {i : Nat} {d : D} (h : ds[i]? = some d) : idxD (.tuple ds) (.int i) = .ok d := by
  have hi := (List.getElem?_eq_some_iff.mp h).1
  have e : ixN ds.length (i : Int) = some i := by
    unfold ixN
    simp [hi]
  simp [idxD, atI, e, h]
theorem idx_chr {x : Str} {i : Nat} {c : Nat} (h : x.cps.toList[i]? = some c) (hz : x.length ≤ sizeLine) : idxD (.str x) (.int i) = .ok (.str ⟨#[c]⟩) := by
  have hi := (List.getElem?_eq_some_iff.mp h).1
  have e : ixN x.cps.toList.length (i : Int) = some i := by
    unfold ixN
    simp only [Array.length_toList] at hi ⊢
    simp [hi]
  simp only [idxD, if_pos hz, atI, e, Option.bind_some, h]
end Mp
namespace Mp
open PySem PySem.Spec PyProof.Rows L2
/-! ## a run that can be computed -/
def LeO {α : Type} (a b : Out α) : Prop := a = .stuck ∨ a = b
def LeS (a b : SOut) : Prop := a = .stuck ∨ a = b
section
variable {α β : Type}
theorem LeO.rfl' (a : Out α) : LeO a a := .inr rfl
theorem LeO.bind {a b : Out α} {f g : α → Out β} (h : LeO a b) (hf : ∀ x, LeO (f x) (g x)) : LeO (a.bind f) (b.bind g) := by
  rcases h with rfl | rfl
  · exact .inl rfl
  · cases a with
    | ok x => exact hf x
    | exc c fs => exact .inr rfl
    | stuck => exact .inl rfl
theorem LeO.ite {c : Prop} [Decidable c] {a b a' b' : Out α} (h : LeO a a') (h' : LeO b b') : LeO (if c then a else b) (if c then a' else b') := by
  split
  · exact h
  · exact h'
theorem LeO.nox {a b : Out α} (h : LeO a b) : LeO (noxO a) (noxO b) := by
  rcases h with rfl | rfl
  · exact .inl rfl
  · exact .inr rfl
theorem LeS.st {a b : Out α} {ρ : Rho} {f g : α → SOut} (h : LeO a b) (hf : ∀ x, LeS (f x) (g x)) : LeS (a.st ρ f) (b.st ρ g) := by
  rcases h with rfl | rfl
  · exact .inl rfl
  · cases a with
    | ok x => exact hf x
    | exc c fs => exact .inr rfl
    | stuck => exact .inl rfl
theorem LeS.seq {a b : SOut} {f g : Rho → SOut} (h : LeS a b) (hf : ∀ x, LeS (f x) (g x)) : LeS (a.seq f) (b.seq g) := by
  rcases h with rfl | rfl
  · exact .inl rfl
  · cases a with
    | nx ρ => exact hf ρ
    | stuck => exact .inl rfl
    | _ => exact .inr rfl
theorem LeS.ite {c : Prop} [Decidable c] {a b a' b' : SOut} (h : LeS a a') (h' : LeS b b') : LeS (if c then a else b) (if c then a' else b') := by
  split
  · exact h
  · exact h'
theorem LeS.hnd {a b : SOut} (h : LeS a b) (hs : List Hd) : LeS (a.hnd hs) (b.hnd hs) := by
  rcases h with rfl | rfl
  · exact .inl rfl
  · exact .inr rfl
theorem LeS.fin {a b : SOut} (h : LeS a b) : LeO a.fin b.fin := by
  rcases h with rfl | rfl
  · exact .inl rfl
  · exact .inr rfl
theorem lcL_le {g g' : D → Out (Option D)} (h : ∀ d, LeO (g d) (g' d)) : ∀ ds, LeO (lcL g ds) (lcL g' ds)
  | [] => .inr rfl
  | d :: ds => LeO.bind (h d) fun o => LeO.bind (lcL_le h ds) fun r => .inr rfl
theorem dcL_le {g g' : D → Out (Option (D × D))} (h : ∀ d, LeO (g d) (g' d)) : ∀ ds es, LeO (dcL g ds es) (dcL g' ds es)
  | [], _ => .inr rfl
  | d :: ds, es => LeO.bind (h d) fun o => by
    rcases o with _ | ⟨k, v⟩
    · exact dcL_le h ds es
    · dsimp only
      split
      · exact LeO.ite (dcL_le h ds _) (.inr rfl)
      · exact .inr rfl
theorem turnD_le {t : Tg} {ft ft' : Rho → Out Bool} {fe fe' : Rho → Out D} (ht : ∀ ρ, LeO (ft ρ) (ft' ρ)) (he : ∀ ρ, LeO (fe ρ) (fe' ρ)) (ρ : Rho) (d : D) : LeO (turnD t ft fe ρ d) (turnD t ft' fe' ρ d) := by
  unfold turnD
  split
  · exact .inr rfl
  · exact LeO.bind (ht _) fun b => LeO.ite (LeO.bind (he _) fun y => .inr rfl) (.inr rfl)
theorem turnK_le {t : Tg} {ft ft' : Rho → Out Bool} {fk fk' fe fe' : Rho → Out D} (ht : ∀ ρ, LeO (ft ρ) (ft' ρ)) (hk : ∀ ρ, LeO (fk ρ) (fk' ρ)) (he : ∀ ρ, LeO (fe ρ) (fe' ρ)) (ρ : Rho) (d : D) : LeO (turnK t ft fk fe ρ d) (turnK t ft' fk' fe' ρ d) := by
  unfold turnK
  split
  · exact .inr rfl
  · exact LeO.bind (ht _) fun b => LeO.ite (LeO.bind (hk _) fun y => LeO.bind (he _) fun z => .inr rfl) (.inr rfl)
theorem forL_le {t : Tg} {fb fb' : Rho → SOut} (h : ∀ ρ, LeS (fb ρ) (fb' ρ)) : ∀ ds ρ, LeS (forL t fb ds ρ) (forL t fb' ds ρ)
  | [], _ => .inr rfl
  | d :: ds, ρ => by
    unfold forL
    split
    · exact .inr rfl
    · rename_i ρ1 e
      rcases h ρ1 with q | q
      · rw [q]
        exact .inl rfl
      · rw [q]
        split
        · exact forL_le h ds _
        · exact forL_le h ds _
        · exact .inr rfl
        · exact .inr rfl
        · exact .inr rfl
        · exact .inr rfl
theorem whileF_le {fc fc' : Rho → Out Bool} {fb fb' : Rho → SOut} (hc : ∀ ρ, LeO (fc ρ) (fc' ρ)) (h : ∀ ρ, LeS (fb ρ) (fb' ρ)) : ∀ n ρ, LeS (whileF fc fb n ρ) (whileF fc' fb' n ρ)
  | 0, _ => .inr rfl
  | n + 1, ρ => LeS.st (hc ρ) fun k => by
    refine LeS.ite ?_ (.inr rfl)
    rcases h ρ with q | q
    · rw [q]
      exact .inl rfl
    · rw [q]
      split
      · exact whileF_le hc h n _
      · exact whileF_le hc h n _
      · exact .inr rfl
      · exact .inr rfl
      · exact .inr rfl
      · exact .inr rfl
theorem whileR_le {fc fc' : Rho → Out Bool} {fb fb' : Rho → SOut} (hc : ∀ ρ, LeO (fc ρ) (fc' ρ)) (h : ∀ ρ, LeS (fb ρ) (fb' ρ)) (n : Nat) (ρ : Rho) : LeS (whileF fc fb n ρ) (whileR fc' fb' ρ) := by
  by_cases e : whileF fc fb n ρ = .stuck
  · exact .inl e
  · rcases whileF_le hc h n ρ with q | q
    · exact absurd q e
    · refine .inr ?_
      rw [q]
      exact (whileR_eq (fun z => e (q.trans z))).symm
end
section
variable {G G' : Nat → List D → Out D} (hG : ∀ f ds, LeO (G f ds) (G' f ds))
include hG
mutual
theorem ev_le : ∀ (c : C) (ρ : Rho), LeO (ev G c ρ) (ev G' c ρ)
  | .lit d, ρ => .inr rfl
  | .var i, ρ => .inr rfl
  | .varB i, ρ => .inr rfl
  | .bin o a b, ρ => by
    rw [ev_bin, ev_bin]
    exact LeO.bind (ev_le a ρ) fun x => LeO.bind (ev_le b ρ) fun y => .inr rfl
  | .neg a, ρ => by
    rw [ev_neg, ev_neg]
    exact LeO.bind (ev_le a ρ) fun x => .inr rfl
  | .cmp o a b, ρ => by
    rw [ev_cmp, ev_cmp]
    exact LeO.bind (ev_le a ρ) fun x => LeO.bind (ev_le b ρ) fun y => .inr rfl
  | .chain o o' a b c, ρ => by
    rw [ev_chain, ev_chain]
    exact LeO.bind (ev_le a ρ) fun x => LeO.bind (ev_le b ρ) fun y => LeO.bind (.inr rfl) fun r => LeO.bind (.inr rfl) fun k => LeO.ite (LeO.bind (ev_le c ρ) fun z => .inr rfl) (.inr rfl)
  | .not a, ρ => by
    rw [ev_not, ev_not]
    exact LeO.bind (LeO.bind (ev_le a ρ) fun x => .inr rfl) fun k => .inr rfl
  | .and a b, ρ => by
    rw [ev_and, ev_and]
    exact LeO.bind (ev_le a ρ) fun d => LeO.bind (.inr rfl) fun k => LeO.ite (ev_le b ρ) (.inr rfl)
  | .or a b, ρ => by
    rw [ev_or, ev_or]
    exact LeO.bind (ev_le a ρ) fun d => LeO.bind (.inr rfl) fun k => LeO.ite (.inr rfl) (ev_le b ρ)
  | .ite t a b, ρ => by
    rw [ev_ite, ev_ite]
    exact LeO.bind (evT_le t ρ) fun k => LeO.ite (ev_le a ρ) (ev_le b ρ)
  | .idx a b, ρ => by
    rw [ev_idx, ev_idx]
    exact LeO.bind (ev_le a ρ) fun x => LeO.bind (ev_le b ρ) fun y => .inr rfl
  | .slice a l h, ρ => by
    rw [ev_slice, ev_slice]
    exact LeO.bind (ev_le a ρ) fun x => LeO.bind (evO_le l ρ) fun y => LeO.bind (evO_le h ρ) fun y => .inr rfl
  | .sliceK a l h k, ρ => by
    rw [ev_sliceK, ev_sliceK]
    exact LeO.bind (ev_le a ρ) fun x => LeO.bind (evO_le l ρ) fun y => LeO.bind (evO_le h ρ) fun y => LeO.bind (evO_le k ρ) fun y => .inr rfl
  | .dEn e, ρ => by
    rw [ev_dEn, ev_dEn]
    exact LeO.bind (ev_le e ρ) fun x => .inr rfl
  | .tup es, ρ => by
    rw [ev_tup, ev_tup]
    exact LeO.bind (evs_le es ρ) fun x => .inr rfl
  | .lst es, ρ => by
    rw [ev_lst, ev_lst]
    exact LeO.bind (evs_le es ρ) fun x => .inr rfl
  | .dct0, ρ => .inr rfl
  | .dsp es, ρ => by
    rw [ev_dsp, ev_dsp]
    exact LeO.bind (evs_le es ρ) fun x => .inr rfl
  | .bi b es, ρ => by
    rw [ev_bi, ev_bi]
    exact LeO.bind (evs_le es ρ) fun x => .inr rfl
  | .isi a t, ρ => by
    rw [ev_isi, ev_isi]
    exact LeO.bind (ev_le a ρ) fun x => .inr rfl
  | .call f es, ρ => by
    rw [ev_call, ev_call]
    exact LeO.bind (evs_le es ρ) fun x => hG f x
  | .callB f es, ρ => by
    rw [ev_callB, ev_callB]
    exact LeO.bind (evs_le es ρ) fun x => LeO.bind (hG f x) fun y => .inr rfl
  | .get2 o k d, ρ => by
    rw [ev_get2, ev_get2]
    refine LeO.bind (ev_le o ρ) fun x => ?_
    split
    · exact LeO.ite (.inr rfl) (LeO.bind (ev_le k ρ) fun y => LeO.bind (ev_le d ρ) fun z => .inr rfl)
    · exact .inr rfl
  | .fld cs f o, ρ => by
    rw [ev_fld, ev_fld]
    exact LeO.bind (ev_le o ρ) fun x => .inr rfl
  | .meth c m i o es, ρ => by
    rw [ev_meth, ev_meth]
    exact LeO.bind (ev_le o ρ) fun d => LeO.ite (LeO.bind (evs_le es ρ) fun ds => hG i (d :: ds)) (.inr rfl)
  | .new c n fl es, ρ => by
    rw [ev_new, ev_new]
    exact LeO.bind (evs_le es ρ) fun x => .inr rfl
  | .lenSet e, ρ => by
    rw [ev_lenSet, ev_lenSet]
    exact LeO.bind (ev_le e ρ) fun x => .inr rfl
  | .sortSet e, ρ => by
    rw [ev_sortSet, ev_sortSet]
    exact LeO.bind (ev_le e ρ) fun x => .inr rfl
  | .split o e, ρ => by
    rw [ev_split, ev_split]
    refine LeO.bind (ev_le o ρ) fun x => ?_
    cases x with
    | str a => exact LeO.bind (ev_le e ρ) fun y => .inr rfl
    | _ => exact .inr rfl
  | .join o e, ρ => by
    rw [ev_join, ev_join]
    refine LeO.bind (ev_le o ρ) fun x => ?_
    cases x with
    | str a => exact LeO.bind (ev_le e ρ) fun y => .inr rfl
    | _ => exact .inr rfl
  | .lc t it w e vs, ρ => by
    rw [ev_lc, ev_lc]
    exact LeO.bind (evI_le it ρ) fun ds => LeO.bind (LeO.nox (lcL_le (fun d => turnD_le (fun ρ => evW_le w ρ) (fun ρ => ev_le e ρ) _ d) ds)) fun x => .inr rfl
  | .dc t it w k v vs, ρ => by
    rw [ev_dc, ev_dc]
    exact LeO.bind (evI_le it ρ) fun ds => LeO.bind (LeO.nox (dcL_le (fun d => turnK_le (fun ρ => evW_le w ρ) (fun ρ => ev_le k ρ) (fun ρ => ev_le v ρ) _ d) ds [])) fun x => .inr rfl
theorem evs_le : ∀ (c : Cs) (ρ : Rho), LeO (evs G c ρ) (evs G' c ρ)
  | .nil, ρ => .inr rfl
  | .cons c cs, ρ => by
    rw [evs_cons, evs_cons]
    exact LeO.bind (ev_le c ρ) fun x => LeO.bind (evs_le cs ρ) fun y => .inr rfl
theorem evO_le : ∀ (c : Co) (ρ : Rho), LeO (evO G c ρ) (evO G' c ρ)
  | .no, ρ => .inr rfl
  | .yes c, ρ => by
    rw [evO_yes, evO_yes]
    exact LeO.bind (ev_le c ρ) fun x => .inr rfl
theorem evI_le : ∀ (c : Ci) (ρ : Rho), LeO (evI G c ρ) (evI G' c ρ)
  | .pl c, ρ => by
    rw [evI_pl, evI_pl]
    exact LeO.bind (ev_le c ρ) fun x => .inr rfl
  | .rg1 c, ρ => by
    rw [evI_rg1, evI_rg1]
    exact LeO.bind (evs_le c ρ) fun x => .inr rfl
  | .rg2 c, ρ => by
    rw [evI_rg2, evI_rg2]
    exact LeO.bind (evs_le c ρ) fun x => .inr rfl
  | .zip c, ρ => by
    rw [evI_zip, evI_zip]
    exact LeO.bind (evs_le c ρ) fun x => .inr rfl
  | .enum c, ρ => by
    rw [evI_enum, evI_enum]
    exact LeO.bind (evs_le c ρ) fun x => .inr rfl
  | .plK i, ρ => .inr rfl
theorem evW_le : ∀ (c : Ct) (ρ : Rho), LeO (evW G c ρ) (evW G' c ρ)
  | .no, ρ => .inr rfl
  | .yes t, ρ => by
    rw [evW_yes, evW_yes]
    exact evT_le t ρ
theorem evT_le : ∀ (c : T) (ρ : Rho), LeO (evT G c ρ) (evT G' c ρ)
  | .tr c, ρ => by
    rw [evT_tr, evT_tr]
    exact LeO.bind (ev_le c ρ) fun x => .inr rfl
  | .cmp o a b, ρ => by
    rw [evT_cmp, evT_cmp]
    exact LeO.bind (LeO.bind (ev_le a ρ) fun x => LeO.bind (ev_le b ρ) fun y => .inr rfl) fun x => .inr rfl
  | .chain o o' a b c, ρ => by
    rw [evT_chain, evT_chain]
    exact LeO.bind (LeO.bind (ev_le a ρ) fun x => LeO.bind (ev_le b ρ) fun y => LeO.bind (.inr rfl) fun r => LeO.bind (.inr rfl) fun k => LeO.ite (LeO.bind (ev_le c ρ) fun z => .inr rfl) (.inr rfl)) fun x => .inr rfl
  | .not t, ρ => by
    rw [evT_not, evT_not]
    exact LeO.bind (evT_le t ρ) fun x => .inr rfl
  | .and a b, ρ => by
    rw [evT_and, evT_and]
    exact LeO.bind (evT_le a ρ) fun k => LeO.ite (evT_le b ρ) (.inr rfl)
  | .or a b, ρ => by
    rw [evT_or, evT_or]
    exact LeO.bind (evT_le a ρ) fun k => LeO.ite (.inr rfl) (evT_le b ρ)
  | .ite t a b, ρ => by
    rw [evT_ite, evT_ite]
    exact LeO.bind (evT_le t ρ) fun k => LeO.ite (evT_le a ρ) (evT_le b ρ)
end
end
section
variable (G : Nat → List D → Out D) (m : Nat)
mutual
def exC : S → Rho → SOut
  | .ite t a b, ρ => (evT G t ρ).st ρ fun k => if k = true then exsC a ρ else exsC b ρ
  | .for_ t it b, ρ => (evI G it ρ).st ρ fun ds => forL t (exsC b) ds ρ
  | .whl t b, ρ => whileF (evT G t) (exsC b) m ρ
  | .dem is s, ρ => exC s (dem is ρ)
  | .lend is i e, ρ => (ev G e (dem is ρ)).st ρ (lendD i is ρ)
  | .setA i e, ρ => (ev G e ρ).st ρ (sumD i ρ)
  | .lite is t a b, ρ => (evT G t (dem is ρ)).st ρ fun k => if k = true then exsC a ρ else exsC b ρ
  | .set i e, ρ => (ev G e ρ).st ρ (setV i ρ)
  | .setF i e, ρ => (ev G e ρ).st ρ (setF i ρ)
  | .asg t e, ρ => (ev G e ρ).st ρ (bindS t ρ)
  | .par ts es, ρ => (evs G es ρ).st ρ (bindsS ts ρ)
  | .app i e, ρ => if ownL i ρ = true then (ev G e ρ).st ρ (appD i ρ) else .stuck
  | .ext i e, ρ => if ownL i ρ = true then (ev G e ρ).st ρ (extD i ρ) else .stuck
  | .put i k v, ρ => match isOwn i ρ with
      | some _ => (ev G v ρ).st ρ fun v => (ev G k ρ).st ρ fun k => putS i ρ k v
      | none => .stuck
  | .aug i o e, ρ => match getV ρ i with
      | .ok d => (ev G e ρ).st ρ fun y => (augD o d y).st ρ (setV i ρ)
      | _ => .stuck
  | .exp e, ρ => (ev G e ρ).st ρ fun _ => .nx ρ
  | .ret e, ρ => (ev G e ρ).st ρ .ret
  | .retN, _ => .ret .none
  | .pass, ρ => .nx ρ
  | .brk, ρ => .brk ρ
  | .ct, ρ => .ct ρ
  | .never, _ => .stuck
  | .rais c, ρ => .exc c [] ρ
  | .raisX c f e, ρ => (ev G e ρ).st ρ fun d => if okXd d = true then .exc c [(f, d)] ρ else .stuck
  | .try_ b hs, ρ => (exsC b ρ).hnd hs
def exsC : Ss → Rho → SOut
  | .nil, ρ => .nx ρ
  | .cons s ss, ρ => (exC s ρ).seq (exsC ss)
end
end
def runC (P : List (Nat × Fn)) (m : Nat) : Nat → Nat → List D → Out D
  | 0, _, _ => .stuck
  | n + 1, i, ds => match P.lookup i with
    | none => .stuck
    | some fn => if ds.length = fn.np then (exsC (runC P m n) m fn.body (rho0 fn.nn ds)).fin else .stuck
section
variable {G G' : Nat → List D → Out D} (hG : ∀ f ds, LeO (G f ds) (G' f ds)) (m : Nat)
include hG
mutual
theorem ex_le : ∀ (s : S) (ρ : Rho), LeS (exC G m s ρ) (ex G' s ρ)
  | .ite t a b, ρ => by
    rw [ex_ite]
    exact LeS.st (evT_le hG t ρ) fun k => LeS.ite (exs_le a ρ) (exs_le b ρ)
  | .for_ t it b, ρ => by
    rw [ex_for]
    exact LeS.st (evI_le hG it ρ) fun ds => forL_le (fun ρ => exs_le b ρ) ds ρ
  | .whl t b, ρ => by
    rw [ex_whl]
    exact whileR_le (fun ρ => evT_le hG t ρ) (fun ρ => exs_le b ρ) m ρ
  | .dem is s, ρ => by
    rw [ex_dem]
    exact ex_le s _
  | .lend is i e, ρ => LeS.st (ev_le hG e _) fun x => .inr rfl
  | .setA i e, ρ => LeS.st (ev_le hG e ρ) fun x => .inr rfl
  | .lite is t a b, ρ => by
    rw [ex_lite]
    exact LeS.st (evT_le hG t _) fun k => LeS.ite (exs_le a ρ) (exs_le b ρ)
  | .set i e, ρ => LeS.st (ev_le hG e ρ) fun x => .inr rfl
  | .setF i e, ρ => LeS.st (ev_le hG e ρ) fun x => .inr rfl
  | .asg t e, ρ => LeS.st (ev_le hG e ρ) fun x => .inr rfl
  | .par ts es, ρ => LeS.st (evs_le hG es ρ) fun x => .inr rfl
  | .app i e, ρ => by
    rw [ex_app]
    exact LeS.ite (LeS.st (ev_le hG e ρ) fun x => .inr rfl) (.inr rfl)
  | .ext i e, ρ => by
    rw [ex_ext]
    exact LeS.ite (LeS.st (ev_le hG e ρ) fun x => .inr rfl) (.inr rfl)
  | .put i k v, ρ => by
    rw [ex_put]
    show LeS (match isOwn i ρ with
      | some _ => (ev G v ρ).st ρ fun v => (ev G k ρ).st ρ fun k => putS i ρ k v
      | none => .stuck) _
    cases isOwn i ρ with
    | some d => exact LeS.st (ev_le hG v ρ) fun x => LeS.st (ev_le hG k ρ) fun y => .inr rfl
    | none => exact .inr rfl
  | .aug i o e, ρ => by
    rw [ex_aug]
    show LeS (match getV ρ i with
      | .ok d => (ev G e ρ).st ρ fun y => (augD o d y).st ρ (setV i ρ)
      | _ => .stuck) _
    cases getV ρ i with
    | ok d => exact LeS.st (ev_le hG e ρ) fun x => .inr rfl
    | exc c fs => exact .inr rfl
    | stuck => exact .inr rfl
  | .exp e, ρ => LeS.st (ev_le hG e ρ) fun x => .inr rfl
  | .ret e, ρ => LeS.st (ev_le hG e ρ) fun x => .inr rfl
  | .retN, _ => .inr rfl
  | .pass, ρ => .inr rfl
  | .brk, ρ => .inr rfl
  | .ct, ρ => .inr rfl
  | .never, _ => .inr rfl
  | .rais c, _ => .inr rfl
  | .raisX c f e, ρ => LeS.st (ev_le hG e ρ) fun x => .inr rfl
  | .try_ b hs, ρ => by
    rw [ex_try]
    exact LeS.hnd (exs_le b ρ) hs
theorem exs_le : ∀ (s : Ss) (ρ : Rho), LeS (exsC G m s ρ) (exs G' s ρ)
  | .nil, ρ => .inr rfl
  | .cons s ss, ρ => by
    rw [exs_cons]
    exact LeS.seq (ex_le s ρ) fun ρ => exs_le ss ρ
end
end
theorem run_le (P : List (Nat × Fn)) (m : Nat) : ∀ (n i : Nat) (ds : List D), LeO (runC P m n i ds) (run P n i ds)
  | 0, _, _ => .inr rfl
  | n + 1, i, ds => by
    unfold runC run
    cases e : P.lookup i with
    | none => exact .inr rfl
    | some fn =>
      dsimp only
      by_cases hl : ds.length = fn.np
      · rw [if_pos hl, if_pos hl]
        exact LeS.fin (exs_le (run_le P m n) m _ _)
      · rw [if_neg hl, if_neg hl]
        exact .inr rfl
/-- a run, by computing -/
theorem run_of {P : List (Nat × Fn)} (m : Nat) {n i : Nat} {ds : List D} {d : D} (h : runC P m n i ds = .ok d) : run P n i ds = .ok d := by
  rcases run_le P m n i ds with q | q
  · rw [q] at h
    cases h
  · exact q.symm.trans h
end Mp
namespace Mp
open PySem PySem.Spec PyProof.Rows L2
/-! ## the slots that a statement may write to -/
mutual
def wrS : S → List Nat
  | .set i _ => [i]
  | .setF i _ => [i]
  | .asg t _ => t.ixs
  | .par ts _ => ixsL ts
  | .app i _ => [i]
  | .ext i _ => [i]
  | .put i _ _ => [i]
  | .aug i _ _ => [i]
  | .ite _ a b => wrSs a ++ wrSs b
  | .for_ t _ b => t.ixs ++ wrSs b
  | .whl _ b => wrSs b
  | .try_ b hs => wrSs b ++ hs.filterMap (·.as_)
  | .dem is s => is ++ wrS s
  | .lend is i _ => is ++ [i]
  | .setA i _ => [i]
  | .lite _ _ a b => wrSs a ++ wrSs b
  | .exp _ => []
  | .ret _ => []
  | .retN => []
  | .pass => []
  | .brk => []
  | .ct => []
  | .never => []
  | .rais _ => []
  | .raisX .. => []
def wrSs : Ss → List Nat
  | .nil => []
  | .cons s ss => wrS s ++ wrSs ss
end
/-- all slots but those of l are as they were -/
structure Frm (l : List Nat) (ρ ρ' : Rho) : Prop where
  len : ρ'.length = ρ.length
  get : ∀ j, j ∉ l → ρ'[j]? = ρ[j]?
theorem Frm.refl (l : List Nat) (ρ : Rho) : Frm l ρ ρ := ⟨rfl, fun _ _ => rfl⟩
theorem Frm.trans {l : List Nat} {a b c : Rho} (h : Frm l a b) (k : Frm l b c) : Frm l a c := ⟨k.len.trans h.len, fun j hj => (k.get j hj).trans (h.get j hj)⟩
theorem Frm.sub {l m : List Nat} {a b : Rho} (h : Frm l a b) (s : ∀ j ∈ l, j ∈ m) : Frm m a b := ⟨h.len, fun j hj => h.get j fun z => hj (s j z)⟩
theorem Frm.set {l : List Nat} {a : Rho} {i : Nat} (o : Option (Bool × D)) (hi : i ∈ l) : Frm l a (a.set i o) := ⟨List.length_set, fun j hj => List.getElem?_set_ne fun e => hj (by rw [← e]; exact hi)⟩
theorem Frm.getB {l : List Nat} {a b : Rho} (h : Frm l a b) {j : Nat} (hj : j ∉ l) : getB b j = getB a j := by
  unfold Mp.getB
  rw [h.get j hj]
theorem Frm.getV {l : List Nat} {a b : Rho} (h : Frm l a b) {j : Nat} (hj : j ∉ l) : getV b j = getV a j := by
  unfold Mp.getV
  rw [h.get j hj]
theorem Frm.ownL {l : List Nat} {a b : Rho} (h : Frm l a b) {j : Nat} (hj : j ∉ l) : ownL j b = ownL j a := by
  unfold Mp.ownL
  rw [h.get j hj]
theorem Frm.isOwn {l : List Nat} {a b : Rho} (h : Frm l a b) {j : Nat} (hj : j ∉ l) : isOwn j b = isOwn j a := by
  unfold Mp.isOwn
  rw [h.get j hj]
def FrO (l : List Nat) (ρ : Rho) : SOut → Prop
  | .nx ρ' => Frm l ρ ρ'
  | .brk ρ' => Frm l ρ ρ'
  | .ct ρ' => Frm l ρ ρ'
  | .exc _ _ ρ' => Frm l ρ ρ'
  | .ret _ => True
  | .stuck => True
theorem FrO.sub {l m : List Nat} {ρ : Rho} (s : ∀ j ∈ l, j ∈ m) : ∀ {o : SOut}, FrO l ρ o → FrO m ρ o
  | .nx _, h => Frm.sub h s
  | .brk _, h => Frm.sub h s
  | .ct _, h => Frm.sub h s
  | .exc _ _ _, h => Frm.sub h s
  | .ret _, _ => trivial
  | .stuck, _ => trivial
theorem FrO.from {l : List Nat} {a b : Rho} (h : Frm l a b) : ∀ {o : SOut}, FrO l b o → FrO l a o
  | .nx _, k => Frm.trans h k
  | .brk _, k => Frm.trans h k
  | .ct _, k => Frm.trans h k
  | .exc _ _ _, k => Frm.trans h k
  | .ret _, _ => trivial
  | .stuck, _ => trivial
theorem FrO.st {α : Type} {l : List Nat} {ρ : Rho} {f : α → SOut} {x : Out α} (h : ∀ a, FrO l ρ (f a)) : FrO l ρ (x.st ρ f) := by
  cases x with
  | ok a => exact h a
  | exc c fs => exact Frm.refl l ρ
  | stuck => exact trivial
theorem FrO.seq {l : List Nat} {ρ : Rho} {f : Rho → SOut} {o : SOut} (h : FrO l ρ o) (k : ∀ ρ', FrO l ρ' (f ρ')) : FrO l ρ (o.seq f) := by
  cases o with
  | nx ρ' => exact FrO.from h (k ρ')
  | _ => exact h
mutual
theorem bindT_fr : ∀ {t : Tg} {d : D} {ρ ρ' : Rho}, bindT t d ρ = some ρ' → Frm t.ixs ρ ρ'
  | .nm i, d, ρ, ρ', h => by
    simp only [bindT, Option.some.injEq] at h
    subst h
    exact Frm.set _ (List.mem_singleton_self i)
  | .tup ts, d, ρ, ρ', h => by
    unfold bindT at h
    split at h
    · exact bindTs_fr h
    · cases h
theorem bindTs_fr : ∀ {ts : List Tg} {ds : List D} {ρ ρ' : Rho}, bindTs ts ds ρ = some ρ' → Frm (ixsL ts) ρ ρ'
  | [], [], _, _, h => by
    simp only [bindTs, Option.some.injEq] at h
    subst h
    exact Frm.refl _ _
  | t :: ts, d :: ds, ρ, ρ', h => by
    simp only [bindTs, Option.bind_eq_some_iff] at h
    obtain ⟨ρ1, b1, b2⟩ := h
    exact ((bindT_fr b1).sub fun j hj => List.mem_append_left _ hj).trans ((bindTs_fr b2).sub fun j hj => List.mem_append_right _ hj)
  | [], _ :: _, _, _, h => by simp [bindTs] at h
  | _ :: _, [], _, _, h => by simp [bindTs] at h
end
theorem bindS_fr {t : Tg} {d : D} {ρ : Rho} : FrO t.ixs ρ (bindS t ρ d) := by
  unfold bindS
  split
  · rename_i h
    exact bindT_fr h
  · exact trivial
theorem bindsS_fr {t : List Tg} {d : List D} {ρ : Rho} : FrO (ixsL t) ρ (bindsS t ρ d) := by
  unfold bindsS
  split
  · rename_i h
    exact bindTs_fr h
  · exact trivial
theorem forL_fr {t : Tg} {fb : Rho → SOut} {l : List Nat} (ht : ∀ j ∈ t.ixs, j ∈ l) (hb : ∀ ρ, FrO l ρ (fb ρ)) : ∀ (ds : List D) (ρ : Rho), FrO l ρ (forL t fb ds ρ)
  | [], ρ => Frm.refl l ρ
  | d :: ds, ρ => by
    unfold forL
    split
    · exact trivial
    · rename_i ρ1 e
      have h1 := (bindT_fr e).sub ht
      have h2 := hb ρ1
      generalize fb ρ1 = o at h2
      cases o with
      | nx ρ2 => exact FrO.from (h1.trans h2) (forL_fr ht hb ds ρ2)
      | ct ρ2 => exact FrO.from (h1.trans h2) (forL_fr ht hb ds ρ2)
      | brk ρ2 => exact h1.trans h2
      | ret d => exact trivial
      | exc c fs ρ2 => exact h1.trans h2
      | stuck => exact trivial
theorem whileF_fr {fc : Rho → Out Bool} {fb : Rho → SOut} {l : List Nat} (hb : ∀ ρ, FrO l ρ (fb ρ)) : ∀ (n : Nat) (ρ : Rho), FrO l ρ (whileF fc fb n ρ)
  | 0, ρ => trivial
  | n + 1, ρ => by
    unfold whileF
    refine FrO.st fun k => ?_
    split
    · have h2 := hb ρ
      generalize fb ρ = o at h2
      cases o with
      | nx ρ2 => exact FrO.from h2 (whileF_fr hb n ρ2)
      | ct ρ2 => exact FrO.from h2 (whileF_fr hb n ρ2)
      | brk ρ2 => exact h2
      | ret d => exact trivial
      | exc c fs ρ2 => exact h2
      | stuck => exact trivial
    · exact Frm.refl l ρ
theorem dem_fr : ∀ (is : List Nat) (ρ : Rho), Frm is ρ (dem is ρ)
  | [], ρ => Frm.refl _ ρ
  | i :: is, ρ => by
    have h : Frm [i] ρ (dem1 i ρ) := by
      unfold dem1
      split
      · exact Frm.set _ (List.mem_singleton_self i)
      · exact Frm.refl _ _
    exact (h.sub fun j hj => by rw [List.mem_singleton.mp hj]; exact List.mem_cons_self ..).trans ((dem_fr is _).sub fun j hj => List.mem_cons_of_mem _ hj)
theorem hdl_fr (l : List Nat) (ρ : Rho) : ∀ (hs : List Hd) (c : Str) (fs : List (Str × D)) (ρ' : Rho), Frm l ρ ρ' → FrO (l ++ hs.filterMap (·.as_)) ρ (hdl hs c fs ρ')
  | [], c, fs, ρ', h => h.sub fun j hj => List.mem_append_left _ hj
  | k :: hs, c, fs, ρ', h => by
    unfold hdl
    split
    · have h2 : Frm (l ++ (k :: hs).filterMap (·.as_)) ρ (offR k.as_ ρ') := by
        unfold offR
        split
        · rename_i i e
          refine (h.sub fun j hj => List.mem_append_left _ hj).trans (Frm.set _ (List.mem_append_right _ ?_))
          exact List.mem_filterMap.mpr ⟨k, List.mem_cons_self .., e⟩
        · exact h.sub fun j hj => List.mem_append_left _ hj
      cases k.su with
      | ct => exact h2
      | nx => exact h2
      | isi y n =>
        cases fs with
        | cons _ _ => exact trivial
        | nil =>
          show FrO _ ρ (if y.contains c = true then .ret (.bool true) else if n.contains c = true then .ret (.bool false) else .stuck)
          split
          · exact trivial
          · split <;> exact trivial
      | ret e =>
        show FrO _ ρ ((e.f fs).st _ .ret)
        cases e.f fs with
        | ok d => exact trivial
        | exc c fs => exact h2
        | stuck => exact trivial
    · split
      · refine FrO.sub (fun j hj => ?_) (hdl_fr l ρ hs c fs ρ' h)
        rcases List.mem_append.mp hj with hj | hj
        · exact List.mem_append_left _ hj
        · refine List.mem_append_right _ ?_
          obtain ⟨q, q1, q2⟩ := List.mem_filterMap.mp hj
          exact List.mem_filterMap.mpr ⟨q, List.mem_cons_of_mem _ q1, q2⟩
      · exact trivial
section
variable {G : Nat → List D → Out D}
mutual
theorem frame_S : ∀ (s : S) (ρ : Rho), FrO (wrS s) ρ (ex G s ρ)
  | .set i e, ρ => FrO.st fun d => Frm.set _ (List.mem_singleton_self i)
  | .setF i e, ρ => FrO.st fun d => Frm.set _ (List.mem_singleton_self i)
  | .asg t e, ρ => FrO.st fun d => bindS_fr
  | .par ts es, ρ => FrO.st fun d => bindsS_fr
  | .ext i e, ρ => by
    rw [ex_ext]
    split
    · refine FrO.st fun d => ?_
      unfold extD
      split
      · split
        · split
          · exact Frm.set _ (List.mem_singleton_self i)
          · exact trivial
        · exact trivial
      · exact trivial
    · exact trivial
  | .app i e, ρ => by
    rw [ex_app]
    split
    · refine FrO.st fun d => ?_
      unfold appD
      split
      · split
        · exact Frm.set _ (List.mem_singleton_self i)
        · exact trivial
      · exact trivial
    · exact trivial
  | .put i k v, ρ => by
    rw [ex_put]
    split
    · refine FrO.st fun v => FrO.st fun k => ?_
      unfold putS
      split
      · split
        · exact Frm.set _ (List.mem_singleton_self i)
        · exact trivial
      · exact trivial
    · exact trivial
  | .aug i o e, ρ => by
    rw [ex_aug]
    split
    · exact FrO.st fun y => FrO.st fun d => Frm.set _ (List.mem_singleton_self i)
    · exact trivial
  | .exp e, ρ => FrO.st fun d => Frm.refl _ ρ
  | .ret e, ρ => FrO.st fun d => trivial
  | .retN, ρ => trivial
  | .ite t a b, ρ => FrO.st fun k => by
    split
    · exact FrO.sub (fun j hj => List.mem_append_left _ hj) (frame_Ss a ρ)
    · exact FrO.sub (fun j hj => List.mem_append_right _ hj) (frame_Ss b ρ)
  | .for_ t it b, ρ => FrO.st fun ds => forL_fr (fun j hj => List.mem_append_left _ hj) (fun ρ => FrO.sub (fun j hj => List.mem_append_right _ hj) (frame_Ss b ρ)) ds ρ
  | .whl t b, ρ => by
    rw [ex_whl]
    rcases whileR_or (fc := evT G t) (fb := exs G b) ρ with h | ⟨n, h⟩
    · rw [h]
      exact trivial
    · rw [h]
      exact whileF_fr (frame_Ss b) n ρ
  | .pass, ρ => Frm.refl _ ρ
  | .brk, ρ => Frm.refl _ ρ
  | .ct, ρ => Frm.refl _ ρ
  | .never, ρ => trivial
  | .rais c, ρ => Frm.refl _ ρ
  | .raisX c f e, ρ => by
    rw [ex_raisX]
    refine FrO.st fun d => ?_
    split
    · exact Frm.refl _ ρ
    · exact trivial
  | .try_ b hs, ρ => by
    rw [ex_try]
    have h := frame_Ss b ρ
    show FrO (wrSs b ++ hs.filterMap (·.as_)) ρ _
    generalize exs G b ρ = o at h
    cases o with
    | exc c fs ρ' => exact hdl_fr _ ρ hs c fs ρ' h
    | nx ρ' => exact Frm.sub h fun j hj => List.mem_append_left _ hj
    | ct ρ' => exact Frm.sub h fun j hj => List.mem_append_left _ hj
    | brk ρ' => exact Frm.sub h fun j hj => List.mem_append_left _ hj
    | ret d => exact trivial
    | stuck => exact trivial
  | .dem is s, ρ => by
    rw [ex_dem]
    exact FrO.from ((dem_fr is ρ).sub fun j hj => List.mem_append_left _ hj) (FrO.sub (fun j hj => List.mem_append_right _ hj) (frame_S s _))
  | .lite is t a b, ρ => FrO.st fun k => by
    split
    · exact FrO.sub (fun j hj => List.mem_append_left _ hj) (frame_Ss a ρ)
    · exact FrO.sub (fun j hj => List.mem_append_right _ hj) (frame_Ss b ρ)
  | .setA i e, ρ => by
    rw [ex_setA]
    refine FrO.st fun d => ?_
    unfold sumD
    split
    · exact Frm.set _ (List.mem_singleton_self i)
    · exact Frm.set _ (List.mem_singleton_self i)
  | .lend is i e, ρ => by
    rw [ex_lend]
    refine FrO.st fun d => ?_
    have hi : i ∈ is ++ [i] := List.mem_append_right _ (List.mem_singleton_self i)
    unfold lendD
    split
    · exact Frm.set _ hi
    · exact Frm.trans ((dem_fr is ρ).sub fun j hj => List.mem_append_left _ hj) (Frm.set _ hi)
theorem frame_Ss : ∀ (s : Ss) (ρ : Rho), FrO (wrSs s) ρ (exs G s ρ)
  | .nil, ρ => Frm.refl _ ρ
  | .cons s ss, ρ => by
    rw [exs_cons]
    exact FrO.seq (FrO.sub (fun j hj => List.mem_append_left _ hj) (frame_S s ρ)) fun ρ' => FrO.sub (fun j hj => List.mem_append_right _ hj) (frame_Ss ss ρ')
end
theorem fr_ex {s : S} {ρ ρ' : Rho} (h : ex G s ρ = .nx ρ') : Frm (wrS s) ρ ρ' := by
  have := frame_S (G := G) s ρ
  rw [h] at this
  exact this
theorem fr_exs {s : Ss} {ρ ρ' : Rho} (h : exs G s ρ = .nx ρ') : Frm (wrSs s) ρ ρ' := by
  have := frame_Ss (G := G) s ρ
  rw [h] at this
  exact this
theorem fr_exs_ct {s : Ss} {ρ ρ' : Rho} (h : exs G s ρ = .ct ρ') : Frm (wrSs s) ρ ρ' := by
  have := frame_Ss (G := G) s ρ
  rw [h] at this
  exact this
end
/-! ## slots by number, for simp -/
section
variable {ρ : Rho}
theorem getB_set (i j : Nat) (o : Option (Bool × D)) : getB (ρ.set i o) j = if i = j then (if i < ρ.length then (match o with | some (_, d) => .ok d | none => .stuck) else getB ρ j) else getB ρ j := by
  unfold getB
  by_cases h : i = j
  · subst h
    by_cases hl : i < ρ.length
    · rw [List.getElem?_set_self hl, if_pos rfl, if_pos hl]
      rcases o with _ | ⟨b, d⟩ <;> rfl
    · rw [if_pos rfl, if_neg hl, List.set_eq_of_length_le (by omega)]
  · rw [List.getElem?_set_ne h, if_neg h]
theorem getV_set (i j : Nat) (o : Option (Bool × D)) : getV (ρ.set i o) j = if i = j then (if i < ρ.length then (match o with | some (false, d) => .ok d | _ => .stuck) else getV ρ j) else getV ρ j := by
  unfold getV
  by_cases h : i = j
  · subst h
    by_cases hl : i < ρ.length
    · rw [List.getElem?_set_self hl, if_pos rfl, if_pos hl]
      rcases o with _ | ⟨_ | _, d⟩ <;> rfl
    · rw [if_pos rfl, if_neg hl, List.set_eq_of_length_le (by omega)]
  · rw [List.getElem?_set_ne h, if_neg h]
theorem getB_of_V {j : Nat} {d : D} (h : getV ρ j = .ok d) : getB ρ j = .ok d := by
  unfold getV at h
  unfold getB
  split at h
  · rename_i e
    cases h
    rw [e]
  · cases h
theorem getV_of {j : Nat} {d : D} (h : ρ[j]? = some (some (false, d))) : getV ρ j = .ok d := by
  unfold getV
  rw [h]
theorem getB_of {j : Nat} {b : Bool} {d : D} (h : ρ[j]? = some (some (b, d))) : getB ρ j = .ok d := by
  unfold getB
  rw [h]
theorem isOwn_of {j : Nat} {d : D} (h : ρ[j]? = some (some (true, d))) (hi : isIns d = false := by rfl) : isOwn j ρ = some d := by
  unfold isOwn
  rw [h]
  simp [hi]
theorem ownL_of {j : Nat} {d : List D} (h : ρ[j]? = some (some (true, .list d))) : ownL j ρ = true := by
  unfold ownL
  rw [h]
end
theorem seq_assoc (o : SOut) (f g : Rho → SOut) : (o.seq f).seq g = o.seq fun r => (f r).seq g := by cases o <;> rfl
theorem seq_nx (o : SOut) : o.seq .nx = o := by cases o <;> rfl
/-- a block in two -/
def Ss.app : Ss → Ss → Ss
  | .nil, b => b
  | .cons s a, b => .cons s (Ss.app a b)
theorem exs_app {G : Nat → List D → Out D} : ∀ (a b : Ss) (ρ : Rho), exs G (a.app b) ρ = (exs G a ρ).seq (exs G b)
  | .nil, b, ρ => rfl
  | .cons s a, b, ρ => by
    rw [exs_cons, seq_assoc]
    show (ex G s ρ).seq (exs G (a.app b)) = _
    congr 1
    funext r
    exact exs_app a b r
/-- a for loop, something being kept -/
theorem forL_keep {t : Tg} {fb : Rho → SOut} (I : Rho → Prop) : ∀ {ds : List D} {ρ : Rho}, I ρ → (∀ d ∈ ds, ∀ ρ, I ρ → ∃ ρ1 ρ2, bindT t d ρ = some ρ1 ∧ (fb ρ1 = .nx ρ2 ∨ fb ρ1 = .ct ρ2) ∧ I ρ2) → ∃ ρ', forL t fb ds ρ = .nx ρ' ∧ I ρ' := fun {ds} {ρ} h0 hs => by
  obtain ⟨ρ', e, h⟩ := forL_inv (t := t) (fb := fb) (fun l ρ => (∀ d ∈ l, d ∈ ds) ∧ I ρ) (ds := ds) (ρ := ρ) ⟨fun d hd => hd, h0⟩ fun d l ρ ⟨h1, h2⟩ => by
    obtain ⟨ρ1, ρ2, g1, g2, g3⟩ := hs d (h1 d (List.mem_cons_self ..)) ρ h2
    exact ⟨ρ1, ρ2, g1, g2, fun e he => h1 e (List.mem_cons_of_mem _ he), g3⟩
  exact ⟨ρ', e, h.2⟩
end Mp
namespace Mp
open PySem PySem.Spec PyProof.Rows L2
/-! ## more rules of evaluation -/
section
variable {α β : Type} {ρ : Rho} {G : Nat → List D → Out D}
@[simp] theorem exc_bind (c : Str) (fs : List (Str × D)) (f : α → Out β) : (Out.exc c fs : Out α).bind f = .exc c fs := (rfl)
@[simp] theorem exc_st (c : Str) (fs : List (Str × D)) (f : α → SOut) : (Out.exc c fs : Out α).st ρ f = .exc c fs ρ := (rfl)
@[simp] theorem exc_seq (c : Str) (fs : List (Str × D)) (f : Rho → SOut) : (SOut.exc c fs ρ).seq f = .exc c fs ρ := (rfl)
@[simp] theorem exc_fin (c : Str) (fs : List (Str × D)) : (SOut.exc c fs ρ).fin = .exc c fs := (rfl)
@[simp] theorem nx_hnd (hs : List Hd) : (SOut.nx ρ).hnd hs = .nx ρ := (rfl)
@[simp] theorem ret_hnd (hs : List Hd) (d : D) : (SOut.ret d).hnd hs = .ret d := (rfl)
@[simp] theorem brk_hnd (hs : List Hd) : (SOut.brk ρ).hnd hs = .brk ρ := (rfl)
@[simp] theorem ct_hnd (hs : List Hd) : (SOut.ct ρ).hnd hs = .ct ρ := (rfl)
@[simp] theorem exc_hnd (hs : List Hd) (c : Str) (fs : List (Str × D)) : (SOut.exc c fs ρ).hnd hs = hdl hs c fs ρ := (rfl)
@[simp] theorem part_int (i : Int) : partD (.int i) = .ok (some i) := (rfl)
@[simp] theorem bf_strX (d : D) : Bi.f .str [d] = strF d := (rfl)
@[simp] theorem ands_b (a b : Bool) : (if a = true then (Out.ok (PyData.bool b)) else .ok (.bool a)) = .ok (.bool (a && b)) := by cases a <;> rfl
@[simp] theorem ors_b (a b : Bool) : (if a = true then (Out.ok (PyData.bool a)) else .ok (.bool b)) = .ok (.bool (a || b)) := by cases a <;> rfl
@[simp] theorem and_k (a b : Bool) : (if a = true then (Out.ok b) else .ok false) = .ok (a && b) := by cases a <;> rfl
@[simp] theorem or_k (a b : Bool) : (if a = true then (Out.ok true) else .ok b) = .ok (a || b) := by cases a <;> rfl
@[simp] theorem app_0 (ds : List D) (d : D) (h : ds.length < sizeLine) : appD 0 (some (true, .list ds) :: ρ) d = .nx (some (true, .list (ds ++ [d])) :: ρ) := by
  rw [appD_at (i := 0) (ds := ds) d rfl h]
  rfl
theorem app_i {i : Nat} {ds : List D} (d : D) (h : ρ[i]? = some (some (true, .list ds))) (hz : ds.length < sizeLine) : appD i ρ d = .nx (ρ.set i (some (true, .list (ds ++ [d])))) := appD_at d (isOwn_of h) hz
theorem ev_split_ok {o e : C} {a b : Str} {r : Out D} (h1 : ev G o ρ = .ok (.str a)) (h2 : ev G e ρ = .ok (.str b)) (h3 : splitD (.str a) (.str b) = r) : ev G (.split o e) ρ = r := by
  rw [ev_split, h1, ok_bind]
  show (ev G e ρ).bind _ = r
  rw [h2, ok_bind, h3]
theorem ev_join_ok {o e : C} {a : Str} {x : D} {r : Out D} (h1 : ev G o ρ = .ok (.str a)) (h2 : ev G e ρ = .ok x) (h3 : joinD (.str a) x = r) : ev G (.join o e) ρ = r := by
  rw [ev_join, h1, ok_bind]
  show (ev G e ρ).bind _ = r
  rw [h2, ok_bind, h3]
end
/-! ## a def's body -/
theorem run_ok {P : List (Nat × Fn)} {i : Nat} {fn : Fn} {ds : List D} (h : P.lookup i = some fn) (hl : ds.length = fn.np) {k n : Nat} (hn : k + 1 ≤ n) {r : Out D} (hb : ∀ m, k ≤ m → (exs (run P m) fn.body (rho0 fn.nn ds)).fin = r) : run P n i ds = r := by
  obtain ⟨m, rfl⟩ : ∃ m, n = m + 1 := ⟨n - 1, by omega⟩
  rw [run_at h hl]
  exact hb m (by omega)
/-! ## loops -/
theorem forL_c {t : Tg} {fb : Rho → SOut} {d : D} {ds : List D} {ρ ρ1 : Rho} (h1 : bindT t d ρ = some ρ1) : forL t fb (d :: ds) ρ = match fb ρ1 with
    | .nx ρ2 => forL t fb ds ρ2
    | .ct ρ2 => forL t fb ds ρ2
    | .brk ρ2 => .nx ρ2
    | .ret r => .ret r
    | .exc c fs ρ2 => .exc c fs ρ2
    | .stuck => .stuck := by
  rw [forL, h1] <;> (cases h : fb ρ1 <;> simp [h])
/-- a comprehension over drawn items -/
theorem lc_of {α : Type} {G : Nat → List D → Out D} {ρ : Rho} {t : Tg} {it : Ci} {e : C} {vs : List Nat} {xs : List α} {f h : α → D} (hit : evI G it ρ = .ok (xs.map f)) (hz : xs.length ≤ 100000)
    (hg : ∀ x ∈ xs, turnD t (evW G .no) (ev G e) (wipeR ρ vs) (f x) = .ok (some (h x))) : ev G (.lc t it .no e vs) ρ = .ok (.list (xs.map h)) := by
  rw [ev_lc, hit, ok_bind, lcL_of hg, noxO_ok, ok_bind]
  exact lstD_ok (Nat.le_trans (by rw [List.length_map]; exact hz) (by decide))
theorem lc_ofW {α : Type} {G : Nat → List D → Out D} {ρ : Rho} {t : Tg} {it : Ci} {w : Ct} {e : C} {vs : List Nat} {xs : List α} {f : α → D} {h : α → Option D} (hit : evI G it ρ = .ok (xs.map f)) (hz : xs.length ≤ 100000)
    (hg : ∀ x ∈ xs, turnD t (evW G w) (ev G e) (wipeR ρ vs) (f x) = .ok (h x)) : ev G (.lc t it w e vs) ρ = .ok (.list (xs.filterMap h)) := by
  rw [ev_lc, hit, ok_bind, lcL_ofIf hg, noxO_ok, ok_bind]
  exact lstD_ok (Nat.le_trans (List.length_filterMap_le _ _) (Nat.le_trans hz (by decide)))
theorem turn_nm {k : Nat} {ft : Rho → Out Bool} {fe : Rho → Out D} {ρ : Rho} {d r : D} (h1 : ft (ρ.set k (some (false, d))) = .ok true) (h2 : fe (ρ.set k (some (false, d))) = .ok r) : turnD (.nm k) ft fe ρ d = .ok (some r) := by
  simp [turnD, h1, h2]
/-! ## the last item, all but it -/
theorem cut_last {α : Type} (xs : List α) (d : α) : Mp.cutD (xs ++ [d]) none (some (-1)) = xs := by
  unfold Mp.cutD
  have e : HT.sIx (xs ++ [d]).length (xs ++ [d]).length (some (-1)) = xs.length := by
    unfold HT.sIx
    simp
    omega
  rw [e, HT.sIx_none, List.drop_zero, Nat.sub_zero, List.take_left']
  rfl
theorem atI_last (xs : List D) (d : D) : L2.atI (xs ++ [d]) (-1) = some d := by
  have h1 : (-1 + ((xs.length : Int) + 1)).toNat = xs.length := by omega
  have h2 : (1 : Int) ≤ (xs.length : Int) + 1 := by omega
  unfold L2.atI L2.ixN
  simp [h1, h2]
theorem idx_lastL (xs : List D) (d : D) : idxD (.list (xs ++ [d])) (.int (-1)) = .ok d := by
  simp only [idxD, atI_last]
theorem idx_lastT (xs : List D) (d : D) : idxD (.tuple (xs ++ [d])) (.int (-1)) = .ok d := by
  simp only [idxD, atI_last]
/-! ## comparisons of like data -/
theorem fitI (n : Nat) (i : Int) : fitD n (.int i) = true := by cases n <;> rfl
theorem fitS (n : Nat) (x : Str) : fitD n (.str x) = true := by cases n <;> rfl
theorem fitB (n : Nat) (b : Bool) : fitD n (.bool b) = true := by cases n <;> rfl
theorem fitN (n : Nat) : fitD n .none = true := by cases n <;> rfl
theorem fitA_of {n : Nat} : ∀ {xs : List D}, (∀ x ∈ xs, fitD n x = true) → fitAll n xs = true
  | [], _ => by cases n <;> rfl
  | x :: xs, h => by
    have h1 := h x (List.mem_cons_self ..)
    have h2 := fitA_of (n := n) (xs := xs) fun y hy => h y (List.mem_cons_of_mem _ hy)
    cases n with
    | zero => simp_all [fitAll]
    | succ n => simp_all [fitAll]
theorem fitA_map {α : Type} {n : Nat} (f : α → D) (hf : ∀ a, fitD n (f a) = true) (xs : List α) : fitAll n (xs.map f) = true := fitA_of fun x hx => by
  obtain ⟨a, _, rfl⟩ := List.mem_map.mp hx
  exact hf a
theorem fitT {n : Nat} {xs : List D} (h : ∀ x ∈ xs, fitD n x = true) : fitD (n + 1) (.tuple xs) = true := by
  have := fitA_of h
  show fitAll n xs = true
  exact this
theorem fitL {n : Nat} {xs : List D} (h : ∀ x ∈ xs, fitD n x = true) : fitD (n + 1) (.list xs) = true := by
  have := fitA_of h
  show fitAll n xs = true
  exact this
theorem eqv_same {d : D} (h : fitD dpt d = true) : PyData.eqv d d = true := PySem.SeqAt.eqv_refl_plain d (fitD_ok d _ h).1
theorem ne_same {d : D} (h : fitD dpt d = true) : neD d d = .ok (.bool false) := by
  unfold neD
  rw [if_pos ⟨h, h⟩, eqv_same h]
  rfl
theorem eq_same {d : D} (h : fitD dpt d = true) : eqD d d = .ok (.bool true) := by
  unfold eqD
  rw [if_pos ⟨h, h⟩, eqv_same h]
def tupI (l : List Int) : D := .tuple (l.map .int)
theorem fit_tupI (l : List Int) (n : Nat) : fitD (n + 1) (tupI l) = true := fitT fun x hx => by
  obtain ⟨i, _, rfl⟩ := List.mem_map.mp hx
  exact fitI n i
theorem dataLt_tupI (a b : List Int) : PySem.W.dataLt (tupI a) (tupI b) = decide (a < b) := by
  unfold tupI
  rw [PySem.W.dataLt_tuple]
  have e := PySem.W.dataLt_ints a b
  unfold PySem.W.rowLt at e
  rw [e]
theorem alike_tupI (a b : List Int) : PySem.W.alike (tupI a) (tupI b) = true := by
  unfold tupI
  simp only [PySem.W.alike]
  exact alike_ints _ _
theorem ge_tupI (a b : List Int) : geD (tupI a) (tupI b) = .ok (.bool (!decide (a < b))) := by
  have h : geD (tupI a) (tupI b) = ltG (fun x y => !PySem.W.dataLt x y) (tupI a) (tupI b) := rfl
  rw [h]
  unfold ltG
  rw [if_pos ⟨fit_tupI a 59, fit_tupI b 59, alike_tupI a b, rfl⟩]
  show Out.ok (PyData.bool (!PySem.W.dataLt (tupI a) (tupI b))) = _
  rw [dataLt_tupI]
theorem lt_tupI (a b : List Int) : ltD (tupI a) (tupI b) = .ok (.bool (decide (a < b))) := by
  have h : ltD (tupI a) (tupI b) = ltG PySem.W.dataLt (tupI a) (tupI b) := rfl
  rw [h]
  unfold ltG
  rw [if_pos ⟨fit_tupI a 59, fit_tupI b 59, alike_tupI a b, rfl⟩, dataLt_tupI]
theorem range_nat {m : Nat} (h : m ≤ 1000000) : range1D [.int (m : Nat)] = .ok ((List.range m).map fun i => .int (i : Nat)) := by
  have h1 : okR (m : Nat) = true := by
    unfold okR
    simp only [Bool.and_eq_true, decide_eq_true_eq]
    omega
  have e : rangeI 0 m = (List.range m).map fun i => PyData.int (i : Nat) := by
    unfold rangeI
    exact List.map_congr_left fun i _ => by simp
  rw [← e]
  simp [range1D, h1]
end Mp

namespace LQ
open PySem PySem.Spec PyProof.Rows L2
abbrev pr : PySem.Program := PySem.Challenge.pw_pathstrue_k41_whole_texts_of_tests
def top (i : Nat) : Stmt := pr.main.body.getD i (.Pass ⟨0, 0, 0, 0⟩)
def mk (id : Nat) (x : PySem.Str) (i : Nat) (ps N : List PySem.Str) (ow : List Nat) : Mp.DefM := ⟨id, ⟨(x, none), x, x, defArgs (top i), defBody (top i), defScope (top i), [], []⟩, ps, N, ow⟩
def topm (i j : Nat) : Stmt := match top i with
  | .ClassDef _ _ _ b _ _ _ _ _ _ _ => b.getD j (.Pass ⟨0, 0, 0, 0⟩)
  | s => s
def mkm (id : Nat) (c m q : PySem.Str) (i j : Nat) (ps N : List PySem.Str) (ow : List Nat) : Mp.DefM := ⟨id, ⟨(c, some m), m, q, defArgs (topm i j), defBody (topm i j), defScope (topm i j), [], []⟩, ps, N, ow⟩
def d_is_whole : Mp.DefM := mk 1 "is_whole" 7 ["value", "least", "most"] ["value", "least", "most"] []
def d_ascends : Mp.DefM := mk 84 "ascends" 8 ["values"] ["values", "one", "later"] []
def d_are_tests : Mp.DefM := mk 355 "are_tests" 12 ["value", "many"] ["value", "many", "one"] []
def d_are_inputs : Mp.DefM := mk 356 "are_inputs" 13 ["value"] ["value", "one"] []
def d_tests_text : Mp.DefM := mk 377 "tests_text" 18 ["tests"] ["tests", "one", "many", "test"] []
def d__number : Mp.DefM := mk 378 "_number" 19 ["word"] ["word", "figures", "sign"] []
def d__test : Mp.DefM := mk 379 "_test" 20 ["line", "many"] ["line", "many", "words", "numbers", "word"] [3]
def d_tests_of : Mp.DefM := mk 380 "tests_of" 21 ["text", "many"] ["text", "many", "lines", "found", "number", "line", "test"] [3]
def d__law_draws : Mp.DefM := mk 17 "_law_draws" 23 ["script", "many"] ["script", "many", "draws", "seed", "cell", "number", "k"] [2]
def d__law_text : Mp.DefM := mk 381 "_law_text" 24 ["tests"] ["tests", "one", "test"] []
def d__law_number : Mp.DefM := mk 382 "_law_number" 25 ["word"] ["word", "figures", "sign"] []
def d__law_read : Mp.DefM := mk 383 "_law_read" 26 ["text", "many"] ["text", "many", "lines", "found", "k", "words", "test", "word"] [3]
def d__law_told : Mp.DefM := mk 384 "_law_told" 27 ["text", "many"] ["text", "many", "e"] []
def d__law_is_refused : Mp.DefM := mk 385 "_law_is_refused" 28 ["tests"] ["tests"] []
def d_law : Mp.DefM := mk 386 "law" 29 ["script"] ["script", "draws", "many", "tests", "j", "k", "text", "bent", "turn", "at", "way", "sign", "long_text", "wrong", "wrongs"] [14]
def ms : List Mp.DefM := [d_is_whole, d_ascends, d_are_tests, d_are_inputs, d_tests_text, d__number, d__test, d_tests_of, d__law_draws, d__law_text, d__law_number, d__law_read, d__law_told, d__law_is_refused, d_law]
def con : List (PySem.Str × Mp.D) := [(⟨"MOST_NAMES", (.int 6)⟩ : PySem.Str × Mp.D), (⟨"MOST_INPUT", (.int 1000)⟩ : PySem.Str × Mp.D), (⟨"MOST_TESTS", (.int 60)⟩ : PySem.Str × Mp.D), (⟨"BETWEEN", (.str ", ")⟩ : PySem.Str × Mp.D), (⟨"FIGURES", (.str "0123456789")⟩ : PySem.Str × Mp.D), (⟨"MOST_FIGURES", (.int 4)⟩ : PySem.Str × Mp.D)]
def fns : List (PySem.Str × Nat × Bool) := [(⟨"is_whole", 1, false⟩ : PySem.Str × Nat × Bool), (⟨"ascends", 84, false⟩ : PySem.Str × Nat × Bool), (⟨"are_tests", 355, false⟩ : PySem.Str × Nat × Bool), (⟨"are_inputs", 356, false⟩ : PySem.Str × Nat × Bool), (⟨"tests_text", 377, false⟩ : PySem.Str × Nat × Bool), (⟨"_number", 378, false⟩ : PySem.Str × Nat × Bool), (⟨"_test", 379, false⟩ : PySem.Str × Nat × Bool), (⟨"tests_of", 380, false⟩ : PySem.Str × Nat × Bool), (⟨"_law_draws", 17, false⟩ : PySem.Str × Nat × Bool), (⟨"_law_text", 381, false⟩ : PySem.Str × Nat × Bool), (⟨"_law_number", 382, false⟩ : PySem.Str × Nat × Bool), (⟨"_law_read", 383, false⟩ : PySem.Str × Nat × Bool), (⟨"_law_told", 384, false⟩ : PySem.Str × Nat × Bool), (⟨"_law_is_refused", 385, false⟩ : PySem.Str × Nat × Bool), (⟨"law", 386, false⟩ : PySem.Str × Nat × Bool)]
def exs : List (PySem.Str × Bool × List PySem.Str) := [(⟨"PathError", true, ["PathError"]⟩ : PySem.Str × Bool × List PySem.Str), (⟨"BadLine", false, ["BadLine", "PathError"]⟩ : PySem.Str × Bool × List PySem.Str), (⟨"BadTests", true, ["BadTests", "PathError"]⟩ : PySem.Str × Bool × List PySem.Str), (⟨"BadMany", true, ["BadMany", "PathError"]⟩ : PySem.Str × Bool × List PySem.Str)]
def ins : List (PySem.Str × Mp.DefM) := []
def mkx (c q : PySem.Str) (i j : Nat) : Mp.XiM := ⟨c, ⟨(c, some "__init__"), "__init__", q, defArgs (topm i j), defBody (topm i j), defScope (topm i j), [], []⟩⟩
def xs : List Mp.XiM := [mkx "BadLine" "BadLine.__init__" 2 0]
def cl : Mp.ClT := ⟨[], [], [], [], [(⟨"BadLine", "line"⟩ : PySem.Str × PySem.Str)]⟩
def prg : Mp.Prg := ⟨ms, con, fns, exs, ins, cl, xs, pr.main.file⟩
end LQ
namespace LW
open PySem PySem.Spec PyProof.Rows L2
def c_is_whole : Mp.Fn := ⟨3, 3,
  (.cons (.ret (.and (.isi (.varB 0) "int") (.and (.not (.isi (.varB 0) "bool")) (.chain .le .le (.varB 1) (.varB 0) (.varB 2)))))
  .nil)⟩
def c_ascends : Mp.Fn := ⟨1, 3,
  (.cons (.ret (.bi .all (.cons (.lc (.tup [(.nm 1), (.nm 2)]) (.zip (.cons (.varB 0) (.cons (.slice (.varB 0) (.yes (.lit (.int 1))) .no) .nil))) .no (.cmp .lt (.varB 1) (.varB 2)) [1, 2]) .nil)))
  .nil)⟩
def c_are_tests_s0 : Mp.S := (.ite (.or (.not (.tr (.isi (.varB 0) "tuple"))) (.cmp .gt (.bi .len (.cons (.varB 0) .nil)) (.lit (.int 60))))
  (.cons (.ret (.lit (.bool false)))
  .nil)
  .nil)
def c_are_tests_l1 : Mp.C := (.lc (.nm 2) (.pl (.varB 0)) .no (.and (.isi (.varB 2) "tuple") (.cmp .eq (.bi .len (.cons (.varB 2) .nil)) (.varB 1))) [2])
def c_are_tests_s2 : Mp.S := (.ite (.not (.tr (.bi .all (.cons c_are_tests_l1 .nil))))
  (.cons (.ret (.lit (.bool false)))
  .nil)
  .nil)
def c_are_tests_l3 : Mp.C := (.lc (.nm 2) (.pl (.varB 0)) .no (.call 356 (.cons (.var 2) .nil)) [2])
def c_are_tests_s4 : Mp.S := (.ret (.and (.bi .all (.cons c_are_tests_l3 .nil)) (.call 84 (.cons (.var 0) .nil))))
def c_are_tests : Mp.Fn := ⟨2, 3,
  (.cons c_are_tests_s0
  (.cons c_are_tests_s2
  (.cons c_are_tests_s4
  .nil)))⟩
def c_are_inputs_l0 : Mp.C := (.lc (.nm 1) (.pl (.varB 0)) .no (.call 1 (.cons (.var 1) (.cons (.bin .sub (.lit (.int 0)) (.lit (.int 1000))) (.cons (.lit (.int 1000)) .nil)))) [1])
def c_are_inputs : Mp.Fn := ⟨1, 2,
  (.cons (.ret (.bi .all (.cons c_are_inputs_l0 .nil)))
  .nil)⟩
def c_tests_text_l0 : Mp.C := (.lc (.nm 1) (.pl (.varB 0)) .no (.isi (.varB 1) "tuple") [1])
def c_tests_text_s1 : Mp.S := (.ite (.or (.not (.tr (.isi (.varB 0) "tuple"))) (.not (.tr (.bi .all (.cons c_tests_text_l0 .nil)))))
  (.cons (.rais "BadTests")
  .nil)
  .nil)
def c_tests_text_s2 : Mp.S := (.set 2 (.ite (.cmp .gt (.bi .len (.cons (.varB 0) .nil)) (.lit (.int 0))) (.bi .len (.cons (.idx (.varB 0) (.lit (.int 0))) .nil)) (.lit (.int 0))))
def c_tests_text_s3 : Mp.S := (.ite (.or (.cmp .gt (.varB 2) (.lit (.int 6))) (.not (.tr (.call 355 (.cons (.var 0) (.cons (.var 2) .nil))))))
  (.cons (.rais "BadTests")
  .nil)
  .nil)
def c_tests_text_l4 : Mp.C := (.lc (.nm 1) (.pl (.varB 3)) .no (.bi .str (.cons (.varB 1) .nil)) [1])
def c_tests_text_l5 : Mp.C := (.lc (.nm 3) (.pl (.varB 0)) .no (.bin .add (.join (.lit (.str ", ")) c_tests_text_l4) (.lit (.str "\n"))) [3])
def c_tests_text : Mp.Fn := ⟨1, 4,
  (.cons c_tests_text_s1
  (.cons c_tests_text_s2
  (.cons c_tests_text_s3
  (.cons (.ret (.join (.lit (.str "")) c_tests_text_l5))
  .nil))))⟩
def c__number_s0 : Mp.S := (.set 1 (.ite (.cmp .eq (.slice (.varB 0) .no (.yes (.lit (.int 1)))) (.lit (.str "-"))) (.slice (.varB 0) (.yes (.lit (.int 1))) .no) (.var 0)))
def c__number_l1 : Mp.C := (.lc (.nm 2) (.pl (.varB 1)) .no (.cmp .inn (.varB 2) (.lit (.str "0123456789"))) [2])
def c__number_s2 : Mp.S := (.ite (.or (.not (.chain .le .le (.lit (.int 1)) (.bi .len (.cons (.varB 1) .nil)) (.lit (.int 4)))) (.not (.tr (.bi .all (.cons c__number_l1 .nil)))))
  (.cons (.ret (.lit .none))
  .nil)
  .nil)
def c__number_s3 : Mp.S := (.ret (.ite (.cmp .eq (.bi .str (.cons (.bi .int (.cons (.varB 0) .nil)) .nil)) (.varB 0)) (.bi .int (.cons (.varB 0) .nil)) (.lit .none)))
def c__number : Mp.Fn := ⟨1, 3,
  (.cons c__number_s0
  (.cons c__number_s2
  (.cons c__number_s3
  .nil)))⟩
def c__test_s0 : Mp.S := (.set 2 (.ite (.cmp .ne (.varB 0) (.lit (.str ""))) (.split (.varB 0) (.lit (.str ", "))) (.lst .nil)))
def c__test_l1 : Mp.C := (.lc (.nm 4) (.pl (.varB 2)) .no (.call 378 (.cons (.var 4) .nil)) [4])
def c__test_s2 : Mp.S := (.lite [3] (.or (.cmp .ne (.bi .len (.cons (.varB 3) .nil)) (.varB 1)) (.or (.cmp .inn (.lit .none) (.varB 3)) (.not (.tr (.call 356 (.cons (.var 3) .nil))))))
  (.cons (.ret (.lit .none))
  .nil)
  .nil)
def c__test : Mp.Fn := ⟨2, 5,
  (.cons c__test_s0
  (.cons (.setF 3 c__test_l1)
  (.cons c__test_s2
  (.cons (.ret (.bi .tuple (.cons (.varB 3) .nil)))
  .nil))))⟩
def c_tests_of_s0 : Mp.S := (.ite (.not (.tr (.call 1 (.cons (.var 1) (.cons (.lit (.int 0)) (.cons (.lit (.int 6)) .nil))))))
  (.cons (.rais "BadMany")
  .nil)
  .nil)
def c_tests_of_s1 : Mp.S := (.ite (.not (.tr (.isi (.varB 0) "str")))
  (.cons (.raisX "BadLine" "line" (.lit (.int 0)))
  .nil)
  .nil)
def c_tests_of_s2 : Mp.S := (.ite (.or (.cmp .isN (.varB 6) (.lit .none)) (.or (.cmp .ge (.varB 4) (.lit (.int 60))) (.and (.cmp .gt (.bi .len (.cons (.varB 3) .nil)) (.lit (.int 0))) (.cmp .ge (.idx (.varB 3) (.neg (.lit (.int 1)))) (.varB 6)))))
  (.cons (.raisX "BadLine" "line" (.bin .add (.varB 4) (.lit (.int 1))))
  .nil)
  .nil)
def c_tests_of_b3 : Mp.Ss := (.cons (.set 6 (.call 379 (.cons (.var 5) (.cons (.var 1) .nil))))
  (.cons c_tests_of_s2
  (.cons (.app 3 (.var 6))
  .nil)))
def c_tests_of_s4 : Mp.S := (.for_ (.tup [(.nm 4), (.nm 5)]) (.enum (.cons (.slice (.varB 2) .no (.yes (.neg (.lit (.int 1))))) .nil)) c_tests_of_b3)
def c_tests_of_s5 : Mp.S := (.ite (.cmp .ne (.idx (.varB 2) (.neg (.lit (.int 1)))) (.lit (.str "")))
  (.cons (.raisX "BadLine" "line" (.bi .len (.cons (.varB 2) .nil)))
  .nil)
  .nil)
def c_tests_of : Mp.Fn := ⟨2, 7,
  (.cons c_tests_of_s0
  (.cons c_tests_of_s1
  (.cons (.setF 2 (.split (.varB 0) (.lit (.str "\n"))))
  (.cons (.setF 3 (.lst .nil))
  (.cons c_tests_of_s4
  (.cons c_tests_of_s5
  (.cons (.ret (.bi .tuple (.cons (.varB 3) .nil)))
  .nil)))))))⟩
def c__law_draws : Mp.Fn := ⟨2, 7,
  (.cons (.setF 2 (.lst .nil))
  (.cons (.set 3 (.lit (.int 7)))
  (.cons (.for_ (.nm 4) (.pl (.slice (.varB 0) .no (.yes (.lit (.int 63)))))
  (.cons (.set 5 (.bi .abs (.cons (.varB 4) .nil)))
  (.cons (.set 3 (.bin .mod (.bi .int (.cons (.bin .add (.bin .add (.bin .mul (.varB 3) (.lit (.int 48271))) (.varB 5)) (.lit (.int 11))) .nil)) (.lit (.int 2147483647))))
  (.cons (.ite (.cmp .ge (.varB 5) (.bin .pow (.lit (.int 10)) (.lit (.int 18))))
  (.cons (.for_ (.nm 6) (.rg1 (.cons (.lit (.int 60)) .nil))
  (.cons (.ite (.cmp .gt (.varB 5) (.lit (.int 0)))
  (.cons (.app 2 (.bin .mod (.bi .int (.cons (.varB 5) .nil)) (.lit (.int 1009))))
  (.cons (.set 5 (.bin .fdiv (.varB 5) (.lit (.int 1009))))
  .nil))
  .nil)
  .nil))
  .nil)
  (.cons (.app 2 (.bin .mod (.bin .fdiv (.bi .int (.cons (.bin .add (.bin .mul (.varB 3) (.lit (.int 16807))) (.lit (.int 5))) .nil)) (.lit (.int 3))) (.lit (.int 65521))))
  .nil))
  .nil))))
  (.cons (.for_ (.nm 6) (.rg1 (.cons (.var 1) .nil))
  (.cons (.ite (.cmp .lt (.bi .len (.cons (.varB 2) .nil)) (.varB 1))
  (.cons (.set 3 (.bin .mod (.bi .int (.cons (.bin .add (.bin .add (.bin .mul (.varB 3) (.lit (.int 69621))) (.varB 6)) (.lit (.int 1))) .nil)) (.lit (.int 2147483647))))
  (.cons (.app 2 (.bin .mod (.bin .fdiv (.bi .int (.cons (.varB 3) .nil)) (.lit (.int 7))) (.lit (.int 65521))))
  .nil))
  .nil)
  .nil))
  (.cons (.ret (.slice (.varB 2) .no (.yes (.varB 1))))
  .nil)))))⟩
def c__law_text_l0 : Mp.C := (.lc (.nm 1) (.pl (.varB 2)) .no (.bi .str (.cons (.varB 1) .nil)) [1])
def c__law_text_l1 : Mp.C := (.lc (.nm 2) (.pl (.varB 0)) .no (.bin .add (.join (.lit (.str ", ")) c__law_text_l0) (.lit (.str "\n"))) [2])
def c__law_text : Mp.Fn := ⟨1, 3,
  (.cons (.ret (.join (.lit (.str "")) c__law_text_l1))
  .nil)⟩
def c__law_number_s0 : Mp.S := (.set 1 (.ite (.cmp .eq (.slice (.varB 0) .no (.yes (.lit (.int 1)))) (.lit (.str "-"))) (.slice (.varB 0) (.yes (.lit (.int 1))) .no) (.var 0)))
def c__law_number_l1 : Mp.C := (.lc (.nm 2) (.pl (.varB 1)) .no (.cmp .inn (.varB 2) (.lit (.str "0123456789"))) [2])
def c__law_number_s2 : Mp.S := (.ite (.or (.not (.chain .lt .lt (.lit (.int 0)) (.bi .len (.cons (.varB 1) .nil)) (.lit (.int 5)))) (.or (.not (.tr (.bi .all (.cons c__law_number_l1 .nil)))) (.and (.cmp .eq (.idx (.varB 1) (.lit (.int 0))) (.lit (.str "0"))) (.cmp .ne (.varB 0) (.lit (.str "0"))))))
  (.cons (.ret (.lit .none))
  .nil)
  .nil)
def c__law_number_s3 : Mp.S := (.ret (.ite (.chain .le .le (.neg (.lit (.int 1000))) (.bi .int (.cons (.varB 0) .nil)) (.lit (.int 1000))) (.bi .int (.cons (.varB 0) .nil)) (.lit .none)))
def c__law_number : Mp.Fn := ⟨1, 3,
  (.cons c__law_number_s0
  (.cons c__law_number_s2
  (.cons c__law_number_s3
  .nil)))⟩
def c__law_read_s0 : Mp.S := (.set 5 (.ite (.cmp .ne (.idx (.varB 2) (.varB 4)) (.lit (.str ""))) (.split (.idx (.varB 2) (.varB 4)) (.lit (.str ", "))) (.lst .nil)))
def c__law_read_l1 : Mp.C := (.lc (.nm 7) (.pl (.varB 5)) .no (.call 382 (.cons (.var 7) .nil)) [7])
def c__law_read_s2 : Mp.S := (.ret (.tup (.cons (.lit (.str "line")) (.cons (.bin .add (.varB 4) (.lit (.int 1))) .nil))))
def c__law_read_s3 : Mp.S := (.ite (.or (.cmp .ne (.bi .len (.cons (.varB 6) .nil)) (.varB 1)) (.or (.cmp .inn (.lit .none) (.varB 6)) (.or (.and (.cmp .gt (.bi .len (.cons (.varB 3) .nil)) (.lit (.int 0))) (.cmp .ge (.idx (.varB 3) (.neg (.lit (.int 1)))) (.varB 6))) (.cmp .ge (.varB 4) (.lit (.int 60))))))
  (.cons c__law_read_s2
  .nil)
  .nil)
def c__law_read_b4 : Mp.Ss := (.cons c__law_read_s0
  (.cons (.set 6 (.bi .tuple (.cons c__law_read_l1 .nil)))
  (.cons c__law_read_s3
  (.cons (.app 3 (.var 6))
  .nil))))
def c__law_read_s5 : Mp.S := (.for_ (.nm 4) (.rg1 (.cons (.bin .sub (.bi .len (.cons (.varB 2) .nil)) (.lit (.int 1))) .nil)) c__law_read_b4)
def c__law_read_s6 : Mp.S := (.ret (.ite (.cmp .ne (.idx (.varB 2) (.neg (.lit (.int 1)))) (.lit (.str ""))) (.tup (.cons (.lit (.str "line")) (.cons (.bi .len (.cons (.varB 2) .nil)) .nil))) (.tup (.cons (.lit (.str "tests")) (.cons (.bi .tuple (.cons (.varB 3) .nil)) .nil)))))
def c__law_read : Mp.Fn := ⟨2, 8,
  (.cons (.setF 2 (.split (.varB 0) (.lit (.str "\n"))))
  (.cons (.setF 3 (.lst .nil))
  (.cons c__law_read_s5
  (.cons c__law_read_s6
  .nil))))⟩
def c__law_told_s0 : Mp.S := (.ret (.tup (.cons (.lit (.str "tests")) (.cons (.call 380 (.cons (.var 0) (.cons (.var 1) .nil))) .nil))))
def c__law_told_s1 : Mp.S := (.try_ (.cons c__law_told_s0
  .nil)
  [⟨["BadLine"], ["PathError", "BadTests", "BadMany"], some 2, (.ret (.tup [(.lit (.str "line")), (.fld "line")]))⟩, ⟨["BadMany"], ["PathError", "BadLine", "BadTests"], none, (.ret (.tup [(.lit (.str "many"))]))⟩])
def c__law_told : Mp.Fn := ⟨2, 3,
  (.cons c__law_told_s1
  .nil)⟩
def c__law_is_refused_s0 : Mp.S := (.try_ (.cons (.exp (.call 377 (.cons (.var 0) .nil)))
  .nil)
  [⟨["BadTests"], ["PathError", "BadLine", "BadMany"], none, (.ret (.lit (.bool true)))⟩])
def c__law_is_refused : Mp.Fn := ⟨1, 1,
  (.cons c__law_is_refused_s0
  (.cons (.ret (.lit (.bool false)))
  .nil))⟩
def c_law_s0 : Mp.S := (.set 2 (.bin .mod (.bi .int (.cons (.idx (.varB 1) (.lit (.int 0))) .nil)) (.lit (.int 7))))
def c_law_l1 : Mp.C := (.lc (.nm 4) (.rg1 (.cons (.varB 2) .nil)) .no (.bin .sub (.bin .mod (.bi .int (.cons (.idx (.varB 1) (.bin .add (.bin .add (.lit (.int 1)) (.bin .mul (.lit (.int 3)) (.varB 5))) (.varB 4))) .nil)) (.idx (.lst (.cons (.lit (.int 9)) (.cons (.lit (.int 200)) (.cons (.lit (.int 2001)) .nil)))) (.bin .mod (.varB 5) (.lit (.int 3))))) (.idx (.lst (.cons (.lit (.int 4)) (.cons (.lit (.int 100)) (.cons (.lit (.int 1000)) .nil)))) (.bin .mod (.varB 5) (.lit (.int 3))))) [4])
def c_law_l2 : Mp.C := (.lc (.nm 5) (.rg1 (.cons (.bin .mod (.bi .int (.cons (.idx (.varB 1) (.lit (.int 30))) .nil)) (.lit (.int 8))) .nil)) .no (.bi .tuple (.cons c_law_l1 .nil)) [5])
def c_law_s3 : Mp.S := (.ite (.or (.cmp .ne (.call 377 (.cons (.var 3) .nil)) (.varB 6)) (.cmp .ne (.call 384 (.cons (.var 6) (.cons (.var 2) .nil))) (.tup (.cons (.lit (.str "tests")) (.cons (.var 3) .nil)))))
  (.cons (.ret (.lit (.bool false)))
  .nil)
  .nil)
def c_law_s4 : Mp.S := (.par [(.nm 9), (.nm 10)] (.cons (.bin .mod (.bi .int (.cons (.idx (.varB 1) (.bin .add (.bin .add (.lit (.int 45)) (.varB 5)) (.varB 8))) .nil)) (.bin .add (.bi .len (.cons (.varB 7) .nil)) (.lit (.int 1)))) (.cons (.bin .mod (.bi .int (.cons (.idx (.varB 1) (.bin .add (.bin .add (.lit (.int 60)) (.varB 5)) (.varB 8))) .nil)) (.lit (.int 4))) .nil)))
def c_law_s5 : Mp.S := (.set 11 (.idx (.lit (.str "0-1, \n9x")) (.bin .mod (.bi .int (.cons (.idx (.varB 1) (.bin .add (.lit (.int 75)) (.bin .mod (.bin .add (.varB 5) (.varB 8)) (.lit (.int 15))))) .nil)) (.lit (.int 8)))))
def c_law_s6 : Mp.S := (.set 7 (.bin .add (.bin .add (.slice (.varB 7) .no (.yes (.varB 9))) (.idx (.lst (.cons (.lit (.str "")) (.cons (.var 11) (.cons (.var 11) (.cons (.lit (.str "")) .nil))))) (.varB 10))) (.ite (.cmp .inn (.varB 10) (.tup (.cons (.lit (.int 0)) (.cons (.lit (.int 2)) .nil)))) (.slice (.varB 7) (.yes (.bin .add (.varB 9) (.lit (.int 1)))) .no) (.ite (.cmp .eq (.varB 10) (.lit (.int 1))) (.slice (.varB 7) (.yes (.varB 9)) .no) (.lit (.str ""))))))
def c_law_b7 : Mp.Ss := (.cons c_law_s4
  (.cons c_law_s5
  (.cons c_law_s6
  .nil)))
def c_law_s8 : Mp.S := (.for_ (.nm 8) (.rg1 (.cons (.bin .add (.lit (.int 1)) (.bin .mod (.bi .int (.cons (.idx (.varB 1) (.bin .add (.lit (.int 31)) (.varB 5))) .nil)) (.lit (.int 2)))) .nil)) c_law_b7)
def c_law_s9 : Mp.S := (.ite (.or (.cmp .ne (.call 384 (.cons (.var 7) (.cons (.var 2) .nil))) (.call 383 (.cons (.var 7) (.cons (.var 2) .nil)))) (.cmp .ne (.call 384 (.cons (.var 7) (.cons (.bin .mod (.bin .add (.varB 2) (.lit (.int 1))) (.lit (.int 7))) .nil))) (.call 383 (.cons (.var 7) (.cons (.bin .mod (.bin .add (.varB 2) (.lit (.int 1))) (.lit (.int 7))) .nil)))))
  (.cons (.ret (.lit (.bool false)))
  .nil)
  .nil)
def c_law_b10 : Mp.Ss := (.cons (.set 7 (.var 6))
  (.cons c_law_s8
  (.cons c_law_s9
  .nil)))
def c_law_l11 : Mp.C := (.lc (.nm 5) (.rg1 (.cons (.lit (.int 61)) .nil)) .no (.bin .add (.bi .str (.cons (.varB 5) .nil)) (.lit (.str "\n"))) [5])
def c_law_s12 : Mp.S := (.ite (.or (.cmp .ne (.call 384 (.cons (.var 12) (.cons (.lit (.int 1)) .nil))) (.tup (.cons (.lit (.str "line")) (.cons (.lit (.int 61)) .nil)))) (.cmp .ne (.idx (.call 384 (.cons (.slice (.varB 12) .no (.yes (.neg (.lit (.int 3))))) (.cons (.lit (.int 1)) .nil))) (.lit (.int 0))) (.lit (.str "tests"))))
  (.cons (.ret (.lit (.bool false)))
  .nil)
  .nil)
def c_law_s13 : Mp.S := (.ite (.or (.cmp .ne (.call 384 (.cons (.var 13) (.cons (.lit (.int 1)) .nil))) (.call 383 (.cons (.var 13) (.cons (.lit (.int 1)) .nil)))) (.cmp .ne (.idx (.call 384 (.cons (.var 13) (.cons (.lit (.int 1)) .nil))) (.lit (.int 0))) (.lit (.str "line"))))
  (.cons (.ret (.lit (.bool false)))
  .nil)
  .nil)
def c_law_b14 : Mp.Ss := (.cons c_law_s13
  .nil)
def c_law_s15 : Mp.S := (.for_ (.nm 13) (.pl (.tup (.cons (.lit (.str "01\n")) (.cons (.lit (.str "-0\n")) (.cons (.lit (.str "1001\n")) (.cons (.lit (.str "-1001\n")) (.cons (.lit (.str "1 ,2\n")) (.cons (.lit (.str "1,2\n")) (.cons (.lit (.str "+1\n")) (.cons (.lit (.str " 1\n")) (.cons (.lit (.str "1\n1\n")) (.cons (.lit (.str "2\n1\n")) (.cons (.lit (.str "1\n\n")) (.cons (.lit (.str "99999999\n")) .nil)))))))))))))) c_law_b14)
def c_law_l16 : Mp.C := (.lc (.nm 13) (.pl (.tup (.cons (.lit .none) (.cons (.lit (.int 5)) (.cons (.lst (.cons (.var 6) .nil)) .nil))))) .no (.call 384 (.cons (.var 13) (.cons (.lit (.int 2)) .nil))) [13])
def c_law_l17 : Mp.C := (.lc (.nm 13) (.pl (.tup (.cons (.lit .none) (.cons (.neg (.lit (.int 1))) (.cons (.lit (.int 7)) (.cons (.lit (.bool true)) (.cons (.lit (.str "a")) .nil))))))) .no (.call 384 (.cons (.var 6) (.cons (.var 13) .nil))) [13])
def c_law_s18 : Mp.S := (.ite (.or (.cmp .ne c_law_l16 (.bin .mul (.lst (.cons (.tup (.cons (.lit (.str "line")) (.cons (.lit (.int 0)) .nil))) .nil)) (.lit (.int 3)))) (.cmp .ne c_law_l17 (.bin .mul (.lst (.cons (.tup (.cons (.lit (.str "many")) .nil)) .nil)) (.lit (.int 5)))))
  (.cons (.ret (.lit (.bool false)))
  .nil)
  .nil)
def c_law_l19 : Mp.C := (.lc (.nm 5) (.rg1 (.cons (.lit (.int 61)) .nil)) .no (.tup (.cons (.var 5) .nil)) [5])
def c_law_s20 : Mp.S := (.setF 14 (.lst (.cons (.lit .none) (.cons (.lst (.cons (.tup (.cons (.lit (.int 0)) .nil)) .nil)) (.cons (.tup (.cons (.tup (.cons (.lit (.int 0)) .nil)) (.cons (.tup (.cons (.lit (.int 0)) (.cons (.lit (.int 0)) .nil))) .nil))) (.cons (.tup (.cons (.tup (.cons (.lit (.int 0)) .nil)) (.cons (.tup (.cons (.lit (.int 0)) .nil)) .nil))) (.cons (.tup (.cons (.tup (.cons (.lit (.int 1)) .nil)) (.cons (.tup (.cons (.lit (.int 0)) .nil)) .nil))) (.cons (.tup (.cons (.tup (.cons (.lit (.int 1001)) .nil)) .nil)) (.cons (.tup (.cons (.tup (.cons (.lit (.bool true)) .nil)) .nil)) (.cons (.tup (.cons (.lit (.int 0)) .nil)) (.cons (.tup (.cons (.bin .mul (.tup (.cons (.lit (.int 0)) .nil)) (.lit (.int 7))) .nil)) (.cons (.bi .tuple (.cons c_law_l19 .nil)) .nil))))))))))))
def c_law_l21 : Mp.C := (.lc (.nm 13) (.pl (.varB 14)) .no (.call 385 (.cons (.var 13) .nil)) [13])
def c_law_s22 : Mp.S := (.ret (.and (.bi .all (.cons c_law_l21 .nil)) (.and (.cmp .eq (.call 377 (.cons (.tup .nil) .nil)) (.lit (.str ""))) (.and (.cmp .eq (.call 377 (.cons (.tup (.cons (.tup .nil) .nil)) .nil)) (.lit (.str "\n"))) (.cmp .eq (.call 384 (.cons (.lit (.str "\n")) (.cons (.lit (.int 0)) .nil))) (.tup (.cons (.lit (.str "tests")) (.cons (.tup (.cons (.tup .nil) .nil)) .nil))))))))
def c_law : Mp.Fn := ⟨1, 15,
  (.cons (.set 1 (.call 17 (.cons (.var 0) (.cons (.lit (.int 90)) .nil))))
  (.cons c_law_s0
  (.cons (.set 3 (.bi .tuple (.cons (.sortSet c_law_l2) .nil)))
  (.cons (.set 6 (.call 381 (.cons (.var 3) .nil)))
  (.cons c_law_s3
  (.cons (.for_ (.nm 5) (.rg1 (.cons (.lit (.int 14)) .nil)) c_law_b10)
  (.cons (.set 12 (.join (.lit (.str "")) c_law_l11))
  (.cons c_law_s12
  (.cons c_law_s15
  (.cons c_law_s18
  (.cons c_law_s20
  (.cons c_law_s22
  .nil))))))))))))⟩

def P : List (Nat × Mp.Fn) := [(1, c_is_whole), (84, c_ascends), (355, c_are_tests), (356, c_are_inputs), (377, c_tests_text), (378, c__number), (379, c__test), (380, c_tests_of), (17, c__law_draws), (381, c__law_text), (382, c__law_number), (383, c__law_read), (384, c__law_told), (385, c__law_is_refused), (386, c_law)]
theorem lk_is_whole : P.lookup 1 = some c_is_whole := rfl
theorem lk_ascends : P.lookup 84 = some c_ascends := rfl
theorem lk_are_tests : P.lookup 355 = some c_are_tests := rfl
theorem lk_are_inputs : P.lookup 356 = some c_are_inputs := rfl
theorem lk_tests_text : P.lookup 377 = some c_tests_text := rfl
theorem lk__number : P.lookup 378 = some c__number := rfl
theorem lk__test : P.lookup 379 = some c__test := rfl
theorem lk_tests_of : P.lookup 380 = some c_tests_of := rfl
theorem lk__law_draws : P.lookup 17 = some c__law_draws := rfl
theorem lk__law_text : P.lookup 381 = some c__law_text := rfl
theorem lk__law_number : P.lookup 382 = some c__law_number := rfl
theorem lk__law_read : P.lookup 383 = some c__law_read := rfl
theorem lk__law_told : P.lookup 384 = some c__law_told := rfl
theorem lk__law_is_refused : P.lookup 385 = some c__law_is_refused := rfl
theorem lk_law : P.lookup 386 = some c_law := rfl
open Mp
local macro_rules | `(tactic| walk_at "mp") => `(tactic| simp -implicitDefEqProofs only [Mp.ok_bind, Mp.stuck_bind, Mp.ok_st, Mp.stuck_st, Mp.nx_seq, Mp.ret_seq, Mp.brk_seq, Mp.ct_seq, Mp.stuck_seq, Mp.nx_fin, Mp.ret_fin, Mp.getV_0, Mp.getV_s, Mp.getB_0, Mp.getB_s, Mp.ev_lit, Mp.ev_var, Mp.ev_varB, Mp.ev_bin, Mp.ev_neg, Mp.ev_cmp, Mp.ev_chain, Mp.ev_not, Mp.ev_and, Mp.ev_or, Mp.ev_ite, Mp.ev_idx, Mp.ev_slice, Mp.ev_sliceK, Mp.ev_dEn, Mp.ev_tup, Mp.ev_lst, Mp.ev_dct0, Mp.ev_dsp, Mp.ev_bi, Mp.ev_isi, Mp.ev_call, Mp.ev_callB, Mp.ev_get2, Mp.ev_fld, Mp.ev_meth, Mp.ev_new, Mp.ev_lenSet, Mp.ev_sortSet, Mp.evs_nil, Mp.evs_cons, Mp.evO_no, Mp.evO_yes, Mp.evI_pl, Mp.evI_rg1, Mp.evI_rg2, Mp.evI_plK, Mp.evI_zip, Mp.evI_enum, Mp.evW_no, Mp.evW_yes, Mp.evT_tr, Mp.evT_cmp, Mp.evT_chain, Mp.evT_not, Mp.evT_and, Mp.evT_or, Mp.evT_ite, Mp.ex_set, Mp.ex_setF, Mp.ex_asg, Mp.ex_par, Mp.ex_app, Mp.ex_ext, Mp.ex_put, Mp.ex_aug, Mp.ex_exp, Mp.ex_ret, Mp.ex_retN, Mp.ex_ite, Mp.ex_pass, Mp.ex_brk, Mp.ex_ct, Mp.ex_never, Mp.ex_rais, Mp.ex_raisX, Mp.ex_try, Mp.ex_setA, Mp.ex_lend, Mp.ex_lite, Mp.ex_dem, Mp.exs_nil, Mp.exs_cons, Mp.dem_nil, Mp.dem_cons, Mp.demF_0s, Mp.demF_0n, Mp.demF_s, Mp.wipe_nil, Mp.wipe_cons, Mp.bindT_nm, Mp.bindT_tup, Mp.bindTs_nil, Mp.bindTs_cons, Mp.bindS_eq, Mp.bindsS_eq, Mp.forL_nil, Mp.ownL_0, Mp.ownL_s, Mp.isIns_list, Mp.isIns_dict, Mp.isOwn_0, Mp.isOwn_s, Mp.noxO_ok, Mp.addD_int, Mp.subD_int, Mp.negD_int, Mp.f_add, Mp.f_sub, Mp.f_mul, Mp.f_fdiv, Mp.f_mod, Mp.f_pow, Mp.o_eq, Mp.o_ne, Mp.o_lt, Mp.o_gt, Mp.o_le, Mp.o_ge, Mp.o_isN, Mp.o_notN, Mp.o_in, Mp.o_out, Mp.ltD_int, Mp.gtD_int, Mp.leD_int, Mp.geD_int, Mp.eqD_int, Mp.neD_int, Mp.truthD_bool, Mp.boolD_bool, Mp.truthD_int, Mp.truthD_non, Mp.truthD_list, Mp.truthD_tup, Mp.isi_int, Mp.isi_bool, Mp.isi_str, Mp.isi_tup, Mp.isi_list, Mp.isi_dict, Mp.isi_non, Mp.isiO_int, Mp.isiO_bool, Mp.isiO_str, Mp.isiO_tup, Mp.isiO_list, Mp.isiO_non, Mp.items_list, Mp.items_tup, Mp.items_str, Mp.bf_len, Mp.bf_abs, Mp.bf_int, Mp.bf_sum, Mp.bf_all, Mp.bf_any, Mp.bf_tuple, Mp.bf_list, Mp.bf_dict, Mp.bf_sorted, Mp.bf_max, Mp.bf_min, Mp.len_list, Mp.len_tup, Mp.abs_int, Mp.int_int, Mp.tuple_list, Mp.tuple_tup, Mp.list_list, Mp.list_tup, Mp.tupD_nil, Mp.tupD_1, Mp.tupD_2, Mp.tupD_3, Mp.lstD_nil, Mp.lstD_1, Mp.lstD_2, Mp.lstD_3, Mp.idx_t0, Mp.idx_t1, Mp.insB_nil, Mp.insB_str, Mp.insB_ins, Mp.itemsK_dict, Mp.itemsK_list, Mp.itemsK_tup, Mp.exc_bind, Mp.exc_st, Mp.exc_seq, Mp.exc_fin, Mp.nx_hnd, Mp.ret_hnd, Mp.brk_hnd, Mp.ct_hnd, Mp.exc_hnd, Mp.part_int, Mp.bf_strX, Mp.ands_b, Mp.ors_b, Mp.and_k, Mp.or_k, Mp.app_0, Mp.dem1_eq, List.set_cons_succ, List.set_cons_zero, Option.bind_some, Option.bind_none, if_true, if_false, ite_true, ite_false, Bool.false_eq_true, Bool.not_true, Bool.not_false, Bool.true_and, Bool.and_true, Bool.false_and, Bool.and_false, Bool.true_or, Bool.or_true, Bool.false_or, Bool.or_false, reduceCtorEq, decide_true, decide_false, *])
def pr (p : PySem.Str × Int) : D := .tuple [.str p.1, .int p.2]
def frm (c : Int) (ps : List (PySem.Str × Int)) : D := .tuple [.int c, .tuple (ps.map pr)]
def ltS (a b : PySem.Str) : Bool := decide (a.cps.toList < b.cps.toList)
theorem dataLt_str (a b : PySem.Str) : PySem.W.dataLt (.str a) (.str b) = ltS a b := by
  have h1 := congrFun (congrFun (PySem.W.dataLe_str (fun x : PySem.Str => x)) b) a
  rw [PySem.W.dataLe_eq] at h1
  have h2 : (!PySem.W.dataLt (.str a) (.str b)) = decide (b.cps.toList ≤ a.cps.toList) := h1
  have h3 : PySem.W.dataLt (.str a) (.str b) = !decide (b.cps.toList ≤ a.cps.toList) := by rw [← h2, Bool.not_not]
  rw [h3]
  unfold ltS
  by_cases h : a.cps.toList < b.cps.toList
  · simp [h, Std.not_le.mpr h]
  · simp [h, Std.not_lt.mp h]
theorem ltD_str (a b : PySem.Str) : ltD (.str a) (.str b) = .ok (.bool (ltS a b)) := by
  simp [ltD, ltG, fitD, PySem.W.alike, noneD, dataLt_str]
theorem cut_tail {α : Type} (xs : List α) : Mp.cutD xs (some 1) none = xs.drop 1 := by
  unfold Mp.cutD
  cases xs with
  | nil => rfl
  | cons x xs =>
    have e : HT.sIx (x :: xs).length 0 (some 1) = 1 := by
      unfold HT.sIx
      simp
    have e2 : HT.sIx (x :: xs).length (x :: xs).length none = (x :: xs).length := by
      unfold HT.sIx
      simp
    rw [e, e2]
    simp
theorem ascends_run (n : Nat) {xs : List PySem.Str} (h : xs.Pairwise fun a b => ltS a b = true) (hz : xs.length ≤ 100) : run P (n + 1) 84 [.list (xs.map .str)] = .ok (.bool true) := by
  rw [run_at lk_ascends rfl]
  have e1 : zipI (xs.map .str) ((xs.map .str).drop 1) = ((xs.zip (xs.drop 1)).map fun q => PyData.tuple [.str q.1, .str q.2]) := by
    unfold zipI
    rw [← List.map_drop, List.zip_map, List.map_map]
    rfl
  have hp : ∀ q ∈ xs.zip (xs.drop 1), ltS q.1 q.2 = true := by
    intro q hq
    obtain ⟨i, hi⟩ := List.getElem?_of_mem hq
    obtain ⟨h1, h2⟩ := List.getElem?_zip_eq_some.mp hi
    rw [List.getElem?_drop] at h2
    have a1 := List.getElem?_eq_some_iff.mp h1
    have a2 := List.getElem?_eq_some_iff.mp h2
    obtain ⟨b1, c1⟩ := a1
    obtain ⟨b2, c2⟩ := a2
    rw [← c1, ← c2]
    exact List.pairwise_iff_getElem.mp h _ _ b1 b2 (by omega)
  simp only [c_ascends, rho0, exs_cons, ex_ret, ev_bi, evs_cons, ev_lc, evI_zip, ev_slice, evO_yes, evO_no, ev_lit, ok_bind, evs_nil, ev_varB, List.map_cons, List.map_nil, List.length_cons, List.length_nil, List.cons_append, List.nil_append, getB_0, partD, sliceD, zipD, cut_tail, e1]
  rw [lcL_of (h := fun q => PyData.bool (ltS q.1 q.2)) (fun q hq => ?_)]
  · have e2 : (xs.zip (xs.drop 1)).map (fun q => PyData.bool (ltS q.1 q.2)) = ((xs.zip (xs.drop 1)).map fun q => true).map PyData.bool := by
      rw [List.map_map]
      exact List.map_congr_left fun q hq => by simp [hp q hq]
    rw [noxO_ok, ok_bind, e2, lstD_ok (by
      rw [List.length_map, List.length_map, List.length_zip]
      have : (100 : Nat) ≤ sizeLine := by decide
      omega)]
    simp only [ok_bind, bf_all, all_bls, ok_st, ret_seq, ret_fin]
    have e3 : ((xs.zip (xs.drop 1)).map fun q => true).all id = true := by simp
    rw [e3]
  · simp [turnD, ltD_str, List.replicate]
theorem len40 {n : Nat} (h : n ≤ 40) : n ≤ sizeLine := by
  have : (40 : Nat) ≤ sizeLine := by decide
  omega
theorem lcs {xs : List D} {ys : List D} {g : D → Out (Option D)} (h : lcL g xs = .ok ys) (hl : ys.length ≤ sizeLine) : (noxO (lcL g xs)).bind lstD = .ok (.list ys) := by
  rw [h, noxO_ok, ok_bind, lstD_ok hl]
@[simp] theorem all_rep (n : Nat) : allF (.list (List.replicate n (PyData.bool true))) = .ok (.bool true) := by
  have e : List.replicate n (PyData.bool true) = (List.replicate n true).map PyData.bool := by rw [List.map_replicate]
  rw [e, all_bls]
  simp
@[simp] theorem all_map {α : Type} (xs : List α) : allF (.list (xs.map fun _ => PyData.bool true)) = .ok (.bool true) := by
  rw [List.map_const']
  exact all_rep _
/-- values of names -/
def val (c : Int) (ps : List (PySem.Str × Int)) (v : PySem.Str → Int) : Int := c + (ps.map fun p => p.2 * v p.1).sum
/-- a dict that gives names their values -/
def Vals (es : List (PySem.Str × Int)) (v : PySem.Str → Int) (ps : List (PySem.Str × Int)) : Prop := ∀ p ∈ ps, es.lookup p.1 = some (v p.1) ∧ (smallI p.2 = true ∨ smallI (v p.1) = true)
theorem idx_str {es : List (PySem.Str × Int)} {x : PySem.Str} {v : Int} (h : es.lookup x = some v) : idxD (.dict (strE es)) (.str x) = .ok (.int v) := by
  simp [idxD, keyOf_str, look_strE, h]
theorem ltS_eq (a b : PySem.Str) : ltS a b = decide (a.cps.toList < b.cps.toList) := rfl
theorem ltS_le {a b : PySem.Str} (h : ltS a b = true) : leS a b = true := by
  rw [ltS_eq] at h
  unfold leS
  simp only [decide_eq_true_eq] at *
  exact Std.le_of_lt h
theorem ltS_ne {a b : PySem.Str} (h : ltS a b = true) : a ≠ b := by
  rintro rfl
  rw [ltS_eq] at h
  simp only [decide_eq_true_eq] at h
  exact Std.lt_irrefl h
theorem sortS_id {xs : List PySem.Str} (h : xs.Pairwise fun a b => ltS a b = true) : sortS xs = xs := by
  have h2 : (sortS xs).Pairwise (fun a b => leS a b = true) := List.pairwise_mergeSort leS_trans leS_total xs
  exact (List.mergeSort_perm xs leS).eq_of_pairwise (fun a b _ _ => leS_anti a b) h2 (h.imp ltS_le)
def E1 (k : Int) (ps : List (PySem.Str × Int)) : List (PySem.Str × Int) := ps.foldl (fun es p => putA es p.1 (k * p.2)) []
def E2 (k f : Int) (ps qs : List (PySem.Str × Int)) : List (PySem.Str × Int) := qs.foldl (fun es q => putA es q.1 ((es.lookup q.1).getD 0 + f * q.2)) (E1 k ps)
def pick (es : List (PySem.Str × Int)) (x : PySem.Str) : Option (PySem.Str × Int) := if (es.lookup x).getD 0 = 0 then none else some (x, (es.lookup x).getD 0)
def comb (k f : Int) (ps qs : List (PySem.Str × Int)) : List (PySem.Str × Int) := (sortS ((E2 k f ps qs).map (·.1))).filterMap (pick (E2 k f ps qs))
theorem putA_length (es : List (PySem.Str × Int)) (k : PySem.Str) (v : Int) : (putA es k v).length ≤ es.length + 1 := by
  unfold putA
  split <;> simp
theorem foldl_len {α : Type} {f : List (PySem.Str × Int) → α → List (PySem.Str × Int)} (hf : ∀ es a, (f es a).length ≤ es.length + 1) : ∀ (xs : List α) (es : List (PySem.Str × Int)), (xs.foldl f es).length ≤ es.length + xs.length
  | [], es => Nat.le_refl _
  | x :: xs, es => by
    have h1 := hf es x
    have h2 := foldl_len hf xs (f es x)
    rw [List.foldl_cons, List.length_cons]
    omega
theorem foldl_strE {α : Type} {k : α → PySem.Str} {v : α → Int} : ∀ (xs : List α) (es : List (PySem.Str × Int)), xs.foldl (fun es x => putE es (.inr (k x)) (.int (v x))) (strE es) = strE (xs.foldl (fun es x => putA es (k x) (v x)) es)
  | [], es => rfl
  | x :: xs, es => by
    rw [List.foldl_cons, List.foldl_cons, put_strE]
    exact foldl_strE xs _
theorem getD2_str (es : List (PySem.Str × Int)) (x : PySem.Str) : getD2 (.dict (strE es)) (.str x) (.int 0) = .ok (.int ((es.lookup x).getD 0)) := by
  simp only [getD2, keyOf_str, look_strE]
  cases es.lookup x <;> rfl
theorem putA_new {es : List (PySem.Str × Int)} {k : PySem.Str} {v : Int} (h : ∀ p ∈ es, p.1 ≠ k) : putA es k v = es ++ [(k, v)] := by
  unfold putA
  rw [if_neg]
  simp only [Bool.not_eq_true, List.any_eq_false, beq_iff_eq]
  exact h
theorem E1_eq {k : Int} {ps : List (PySem.Str × Int)} (h : (ps.map (·.1)).Pairwise fun a b => ltS a b = true) : E1 k ps = ps.map fun p => (p.1, k * p.2) := by
  have key : ∀ (qs es : List (PySem.Str × Int)), (qs.map (·.1)).Pairwise (fun a b => ltS a b = true) → (∀ p ∈ es, ∀ q ∈ qs, p.1 ≠ q.1) → qs.foldl (fun es p => putA es p.1 (k * p.2)) es = es ++ qs.map fun p => (p.1, k * p.2) := by
    intro qs
    induction qs with
    | nil => intros; simp
    | cons q qs ih =>
      intro es hq he
      rw [List.map_cons] at hq
      obtain ⟨h1, h2⟩ := List.pairwise_cons.mp hq
      rw [List.foldl_cons, putA_new fun p hp => he p hp q (List.mem_cons_self ..), ih _ h2 fun p hp r hr => ?_]
      · simp
      · rcases List.mem_append.mp hp with hp | hp
        · exact he p hp r (List.mem_cons_of_mem _ hr)
        · rw [List.mem_singleton.mp hp]
          exact ltS_ne (h1 _ (List.mem_map.mpr ⟨r, hr, rfl⟩))
  have := key ps [] h (fun p hp => nomatch hp)
  exact this
theorem lookup_asc {ps : List (PySem.Str × Int)} (h : (ps.map (·.1)).Pairwise fun a b => ltS a b = true) : ∀ p ∈ ps, ps.lookup p.1 = some p.2 := by
  induction ps with
  | nil => exact fun p hp => nomatch hp
  | cons q ps ih =>
    rw [List.map_cons] at h
    obtain ⟨h1, h2⟩ := List.pairwise_cons.mp h
    intro p hp
    obtain ⟨qx, qv⟩ := q
    rw [List.lookup_cons]
    rcases List.mem_cons.mp hp with rfl | hp
    · simp
    · have : (p.1 == qx) = false := by
        simp only [beq_eq_false_iff_ne]
        exact fun z => ltS_ne (h1 _ (List.mem_map.mpr ⟨p, hp, rfl⟩)) z.symm
      rw [this]
      exact ih h2 p hp
def scl (k : Int) (ps : List (PySem.Str × Int)) : List (PySem.Str × Int) := ps.map fun p => (p.1, k * p.2)
theorem scl_names (k : Int) (ps : List (PySem.Str × Int)) : (scl k ps).map (·.1) = ps.map (·.1) := by
  unfold scl
  rw [List.map_map]
  rfl
theorem comb_nil {k f : Int} {ps : List (PySem.Str × Int)} (h : (ps.map (·.1)).Pairwise fun a b => ltS a b = true) (hz : ∀ p ∈ ps, k * p.2 ≠ 0) : comb k f ps [] = scl k ps := by
  have e : E2 k f ps [] = scl k ps := E1_eq h
  have h' : ((scl k ps).map (·.1)).Pairwise fun a b => ltS a b = true := by rw [scl_names]; exact h
  unfold comb
  rw [e, sortS_id h']
  have hl := lookup_asc h'
  have : ∀ (qs : List (PySem.Str × Int)), (∀ q ∈ qs, q ∈ scl k ps) → (qs.map (·.1)).filterMap (pick (scl k ps)) = qs := by
    intro qs
    induction qs with
    | nil => intro _; rfl
    | cons q qs ih =>
      intro hq
      rw [List.map_cons, List.filterMap_cons]
      have h1 := hl q (hq q (List.mem_cons_self ..))
      have h2 : q.2 ≠ 0 := by
        obtain ⟨p, hp, rfl⟩ := List.mem_map.mp (hq q (List.mem_cons_self ..))
        exact hz p hp
      have h3 : pick (scl k ps) q.1 = some q := by
        unfold pick
        rw [h1]
        simp [h2]
      rw [h3]
      show q :: _ = _
      rw [ih fun r hr => hq r (List.mem_cons_of_mem _ hr)]
  exact this _ fun q hq => hq
theorem frm0 : frm 0 [] = .tuple [.int 0, .tuple []] := rfl
theorem abs_nat (a : Int) : (if a < 0 then -a else a) = (a.natAbs : Int) := by
  split <;> omega
def gcdF (g : Nat) (ps : List (PySem.Str × Int)) : Nat := ps.foldl (fun g p => Nat.gcd g p.2.natAbs) g
def gcdL (ps : List (PySem.Str × Int)) : Nat := gcdF 0 ps
def quo (g : Int) (ps : List (PySem.Str × Int)) : List (PySem.Str × Int) := ps.map fun p => (p.1, p.2 / g)
def nrmC (c : Int) (ps : List (PySem.Str × Int)) : Int := if gcdL ps = 0 then (if 0 ≤ c then 0 else -1) else c / (gcdL ps : Int)
def nrmP (ps : List (PySem.Str × Int)) : List (PySem.Str × Int) := if gcdL ps = 0 then [] else quo (gcdL ps) ps
def atm (c : Int) (ps : List (PySem.Str × Int)) : D := .tuple [.str "least", frm c ps]
theorem fdiv_ok {i j : Int} (h : 0 < j) (hl : j.natAbs.log2 < 9000) : fdivD (.int i) (.int j) = .ok (.int (i / j)) := by
  show (if j ≠ 0 ∧ j.natAbs < 1073741824 then Out.ok (PyData.int (i.fdiv j)) else if 0 < j ∧ j.natAbs.log2 < 9000 then .ok (.int (i / j)) else .stuck) = _
  split
  · rw [Int.fdiv_eq_ediv_of_nonneg _ (by omega)]
  · rw [if_pos ⟨h, hl⟩]
abbrev Ps : Type := List (PySem.Str × Int)
theorem gcdF_eq : ∀ (ps : Ps) (g : Nat), gcdF g ps = Nat.gcd g (gcdL ps)
  | [], g => by simp [gcdF, gcdL]
  | p :: ps, g => by
    have h1 : gcdF g (p :: ps) = gcdF (Nat.gcd g p.2.natAbs) ps := rfl
    have h2 : gcdL (p :: ps) = gcdF (Nat.gcd 0 p.2.natAbs) ps := rfl
    rw [h1, h2, gcdF_eq ps, gcdF_eq ps, Nat.gcd_zero_left, Nat.gcd_assoc]
theorem gcdL_cons (p : PySem.Str × Int) (ps : Ps) : gcdL (p :: ps) = Nat.gcd p.2.natAbs (gcdL ps) := by
  have h2 : gcdL (p :: ps) = gcdF (Nat.gcd 0 p.2.natAbs) ps := rfl
  rw [h2, gcdF_eq, Nat.gcd_zero_left]
theorem gcdL_dvd : ∀ {ps : Ps}, ∀ p ∈ ps, (gcdL ps : Int) ∣ p.2
  | q :: ps, p, hp => by
    rw [gcdL_cons]
    rcases List.mem_cons.mp hp with rfl | hp
    · exact Int.ofNat_dvd_left.mpr (Nat.gcd_dvd_left _ _)
    · exact Int.dvd_trans (Int.ofNat_dvd.mpr (Nat.gcd_dvd_right _ _)) (gcdL_dvd p hp)
theorem gcdL_zero {ps : Ps} (hz : ∀ p ∈ ps, p.2 ≠ 0) : gcdL ps = 0 ↔ ps = [] := by
  constructor
  · intro h
    cases ps with
    | nil => rfl
    | cons p ps =>
      have := gcdL_dvd (ps := p :: ps) p (List.mem_cons_self ..)
      rw [h] at this
      exact absurd (Int.zero_dvd.mp this) (hz p (List.mem_cons_self ..))
  · rintro rfl
    rfl
theorem gcdL_le {ps : Ps} {B : Nat} (hz : ∀ p ∈ ps, p.2 ≠ 0) (hb : ∀ p ∈ ps, p.2.natAbs < B) (hB : 0 < B) : gcdL ps < B := by
  cases ps with
  | nil => exact hB
  | cons p ps =>
    have h1 := gcdL_dvd p (List.mem_cons_self (a := p) (l := ps))
    have h2 := hz p (List.mem_cons_self ..)
    have h3 := hb p (List.mem_cons_self ..)
    have h4 : gcdL (p :: ps) ∣ p.2.natAbs := Int.ofNat_dvd_left.mp h1
    have := Nat.le_of_dvd (Int.natAbs_pos.mpr h2) h4
    omega
theorem gcdL_scl (ps : Ps) : gcdL (scl (-1) ps) = gcdL ps := by
  induction ps with
  | nil => rfl
  | cons p ps ih =>
    have : scl (-1) (p :: ps) = (p.1, -1 * p.2) :: scl (-1) ps := rfl
    rw [this, gcdL_cons, gcdL_cons, ih]
    have : (-1 * p.2).natAbs = p.2.natAbs := by omega
    rw [this]
theorem gcdL_quo : ∀ {ps : Ps} {g : Nat}, 0 < g → (∀ p ∈ ps, (g : Int) ∣ p.2) → gcdL (quo g ps) * g = gcdL ps
  | [], g, _, _ => by simp [quo, gcdL, gcdF]
  | p :: ps, g, hg, hd => by
    have e : quo g (p :: ps) = (p.1, p.2 / g) :: quo g ps := rfl
    rw [e, gcdL_cons, gcdL_cons, ← gcdL_quo hg fun q hq => hd q (List.mem_cons_of_mem _ hq)]
    obtain ⟨k, hk⟩ := hd p (List.mem_cons_self ..)
    have h1 : p.2 / (g : Int) = k := by
      rw [hk]
      exact Int.mul_ediv_cancel_left _ (by omega)
    rw [h1, hk, Int.natAbs_mul, Int.natAbs_natCast, Nat.mul_comm g, Nat.gcd_mul_right]
theorem quo_one (ps : Ps) : quo 1 ps = ps := by
  unfold quo
  simp
theorem nrmP_gcd {ps : Ps} (hz : ∀ p ∈ ps, p.2 ≠ 0) : ps = [] ∨ gcdL (nrmP ps) = 1 := by
  by_cases h : gcdL ps = 0
  · exact .inl ((gcdL_zero hz).mp h)
  · refine .inr ?_
    unfold nrmP
    rw [if_neg h]
    have h1 := gcdL_quo (Nat.pos_of_ne_zero h) (gcdL_dvd (ps := ps))
    have h2 : gcdL (quo (gcdL ps) ps) * gcdL ps = 1 * gcdL ps := by rw [Nat.one_mul]; exact h1
    exact Nat.eq_of_mul_eq_mul_right (Nat.pos_of_ne_zero h) h2
theorem nrmP_names {ps : Ps} (hz : ∀ p ∈ ps, p.2 ≠ 0) : (nrmP ps).map (·.1) = ps.map (·.1) := by
  unfold nrmP
  split
  · rename_i h
    rw [(gcdL_zero hz).mp h]
  · unfold quo
    rw [List.map_map]
    rfl
theorem nrmP_nz {ps : Ps} (hz : ∀ p ∈ ps, p.2 ≠ 0) : ∀ p ∈ nrmP ps, p.2 ≠ 0 := by
  unfold nrmP
  split
  · exact fun p hp => nomatch hp
  · rename_i h
    intro p hp
    obtain ⟨q, hq, rfl⟩ := List.mem_map.mp hp
    intro h0
    have h1 := Int.ediv_mul_cancel (gcdL_dvd q hq)
    have h0 : q.2 / (gcdL ps : Int) = 0 := h0
    rw [h0, Int.zero_mul] at h1
    exact hz q hq h1.symm
/-- twice is once -/
theorem nrm_one {c : Int} {ps : Ps} (h : gcdL ps = 1) : nrmC c ps = c ∧ nrmP ps = ps := by
  unfold nrmC nrmP
  rw [h]
  exact ⟨by simp, by simp [quo_one]⟩
theorem nrm_nrm {c : Int} {ps : Ps} (hz : ∀ p ∈ ps, p.2 ≠ 0) : nrmC (nrmC c ps) (nrmP ps) = nrmC c ps ∧ nrmP (nrmP ps) = nrmP ps := by
  rcases nrmP_gcd hz with rfl | h
  · have e : gcdL ([] : Ps) = 0 := rfl
    unfold nrmC nrmP
    simp only [e, if_true]
    refine ⟨?_, trivial⟩
    split <;> simp
  · exact nrm_one h
theorem scl_scl (ps : Ps) : scl (-1) (scl (-1) ps) = ps := by
  unfold scl
  rw [List.map_map]
  have : ((fun p : PySem.Str × Int => (p.1, -1 * p.2)) ∘ fun p => (p.1, -1 * p.2)) = id := by
    funext p
    obtain ⟨x, v⟩ := p
    simp [Function.comp]
  rw [this, List.map_id]
theorem scl_quo {ps : Ps} {g : Int} (hd : ∀ p ∈ ps, g ∣ p.2) : quo g (scl (-1) ps) = scl (-1) (quo g ps) := by
  unfold quo scl
  rw [List.map_map, List.map_map]
  refine List.map_congr_left fun p hp => ?_
  obtain ⟨k, hk⟩ := hd p hp
  show (p.1, (-1 * p.2) / g) = (p.1, -1 * (p.2 / g))
  rw [hk]
  by_cases h0 : g = 0
  · subst h0; simp
  · rw [Int.mul_ediv_cancel_left _ h0, ← Int.mul_assoc, Int.mul_comm (-1) g, Int.mul_assoc, Int.mul_ediv_cancel_left _ h0]
theorem nrmP_scl {ps : Ps} : nrmP (scl (-1) ps) = scl (-1) (nrmP ps) := by
  unfold nrmP
  rw [gcdL_scl]
  split
  · rfl
  · exact scl_quo gcdL_dvd
/-- the negation of an atom -/
def negC (c : Int) (ps : Ps) : Int := nrmC (-c - 1) (scl (-1) ps)
def negP (ps : Ps) : Ps := nrmP (scl (-1) ps)
theorem div_neg1 (c : Int) {g : Int} (hg : 0 < g) : (-c - 1) / g = -(c / g) - 1 := by
  have h1 : c / g * g ≤ c := Int.ediv_mul_le c (by omega)
  have h2 : c < (c / g + 1) * g := Int.lt_ediv_add_one_mul_self c hg
  have e1 : (c / g + 1) * g = c / g * g + g := by rw [Int.add_mul, Int.one_mul]
  have e2 : (-(c / g) - 1) * g = -(c / g * g) - g := by rw [Int.sub_mul, Int.neg_mul, Int.one_mul]
  have e3 : (-(c / g) - 1 + 1) * g = -(c / g * g) := by rw [Int.sub_add_cancel, Int.neg_mul]
  refine Int.le_antisymm ?_ ?_
  · have : (-c - 1) / g < -(c / g) - 1 + 1 := Int.ediv_lt_of_lt_mul hg (by omega)
    omega
  · exact Int.le_ediv_of_mul_le hg (by omega)
theorem neg_nrm {c : Int} {ps : Ps} (hz : ∀ p ∈ ps, p.2 ≠ 0) : negC (nrmC c ps) (nrmP ps) = negC c ps ∧ negP (nrmP ps) = negP ps := by
  have hp : negP (nrmP ps) = negP ps := by
    unfold negP
    rw [nrmP_scl, nrmP_scl, (nrm_nrm (c := 0) hz).2]
  refine ⟨?_, hp⟩
  unfold negC
  rcases nrmP_gcd hz with rfl | h
  · have e : gcdL ([] : Ps) = 0 := rfl
    have e2 : nrmP ([] : Ps) = [] := rfl
    have e3 : scl (-1) ([] : Ps) = [] := rfl
    rw [e2, e3]
    unfold nrmC
    simp only [e, if_true]
    split <;> split <;> omega
  · have h1 : gcdL (scl (-1) (nrmP ps)) = 1 := by rw [gcdL_scl, h]
    rw [(nrm_one h1).1]
    by_cases h0 : gcdL ps = 0
    · have := (gcdL_zero hz).mp h0
      subst this
      cases h
    · unfold nrmC
      rw [gcdL_scl, if_neg h0, if_neg h0, div_neg1 c (by omega)]
theorem neg_neg {c : Int} {ps : Ps} (hz : ∀ p ∈ ps, p.2 ≠ 0) : negC (negC c ps) (negP ps) = nrmC c ps ∧ negP (negP ps) = nrmP ps := by
  have hz' : ∀ p ∈ scl (-1) ps, p.2 ≠ 0 := fun p hp => by
    obtain ⟨q, hq, rfl⟩ := List.mem_map.mp hp
    have := hz q hq
    show -1 * q.2 ≠ 0
    omega
  obtain ⟨h1, h2⟩ := neg_nrm (c := -c - 1) hz'
  unfold negC negP at *
  rw [scl_scl] at h1 h2
  refine ⟨?_, h2⟩
  rw [h1]
  congr 1
  omega
theorem val_quo {g : Int} {ps : Ps} (v : PySem.Str → Int) (hd : ∀ p ∈ ps, g ∣ p.2) : (ps.map fun p => p.2 * v p.1).sum = g * ((quo g ps).map fun p => p.2 * v p.1).sum := by
  induction ps with
  | nil => simp [quo]
  | cons p ps ih =>
    have e : quo g (p :: ps) = (p.1, p.2 / g) :: quo g ps := rfl
    rw [e, List.map_cons, List.map_cons, List.sum_cons, List.sum_cons, ih fun q hq => hd q (List.mem_cons_of_mem _ hq), Int.mul_add]
    have := Int.mul_ediv_cancel' (hd p (List.mem_cons_self ..))
    rw [← Int.mul_assoc, this]
theorem val_nrm {c : Int} {ps : Ps} (v : PySem.Str → Int) (hz : ∀ p ∈ ps, p.2 ≠ 0) : 0 ≤ val (nrmC c ps) (nrmP ps) v ↔ 0 ≤ val c ps v := by
  unfold val
  by_cases h0 : gcdL ps = 0
  · have := (gcdL_zero hz).mp h0
    subst this
    unfold nrmC nrmP
    have e : gcdL ([] : Ps) = 0 := rfl
    simp only [e, if_true, List.map_nil, List.sum_nil, Int.add_zero]
    split <;> omega
  · have hg : (0 : Int) < (gcdL ps : Int) := by omega
    unfold nrmC nrmP
    rw [if_neg h0, if_neg h0, val_quo v (gcdL_dvd (ps := ps))]
    generalize ((quo (gcdL ps) ps).map fun p => p.2 * v p.1).sum = t
    constructor
    · intro h
      have h1 : -t ≤ c / (gcdL ps : Int) := by omega
      have h2 := Int.mul_le_of_le_ediv hg h1
      have e : -t * (gcdL ps : Int) = -((gcdL ps : Int) * t) := by rw [Int.neg_mul, Int.mul_comm]
      omega
    · intro h
      have e : -t * (gcdL ps : Int) = -((gcdL ps : Int) * t) := by rw [Int.neg_mul, Int.mul_comm]
      have h1 : -t ≤ c / (gcdL ps : Int) := Int.le_ediv_of_mul_le hg (by omega)
      omega
theorem val_scl {c : Int} {ps : Ps} (v : PySem.Str → Int) : val (-c - 1) (scl (-1) ps) v = -val c ps v - 1 := by
  unfold val
  have : ((scl (-1) ps).map fun p => p.2 * v p.1).sum = -(ps.map fun p => p.2 * v p.1).sum := by
    induction ps with
    | nil => rfl
    | cons p ps ih =>
      have e : scl (-1) (p :: ps) = (p.1, -1 * p.2) :: scl (-1) ps := rfl
      rw [e, List.map_cons, List.map_cons, List.sum_cons, List.sum_cons, ih, Int.neg_add, Int.mul_assoc, Int.neg_mul, Int.one_mul]
  rw [this]
  omega
theorem val_neg {c : Int} {ps : Ps} (v : PySem.Str → Int) (hz : ∀ p ∈ ps, p.2 ≠ 0) : 0 ≤ val (negC c ps) (negP ps) v ↔ ¬ 0 ≤ val c ps v := by
  have hz' : ∀ p ∈ scl (-1) ps, p.2 ≠ 0 := fun p hp => by
    obtain ⟨q, hq, rfl⟩ := List.mem_map.mp hp
    have := hz q hq
    show -1 * q.2 ≠ 0
    omega
  unfold negC negP
  rw [val_nrm v hz', val_scl]
  omega
/-- factors that are not too large -/
def Sm (ps : Ps) : Prop := ∀ p ∈ ps, p.2.natAbs < 2 ^ 64
theorem Sm.log {ps : Ps} (h : Sm ps) (hz : ∀ p ∈ ps, p.2 ≠ 0) : (gcdL ps).log2 < 9000 := by
  have h1 := gcdL_le hz h (by decide)
  by_cases h0 : gcdL ps = 0
  · rw [h0]
    decide
  · have := (Nat.log2_lt h0).mpr h1
    omega
theorem Sm.scl {ps : Ps} (h : Sm ps) : Sm (scl (-1) ps) := fun p hp => by
  obtain ⟨q, hq, rfl⟩ := List.mem_map.mp hp
  have := h q hq
  show (-1 * q.2).natAbs < 2 ^ 64
  omega
theorem Sm.nrm {ps : Ps} (h : Sm ps) : Sm (nrmP ps) := by
  unfold nrmP
  split
  · exact fun p hp => nomatch hp
  · intro p hp
    obtain ⟨q, hq, rfl⟩ := List.mem_map.mp hp
    have h1 := h q hq
    have h2 : (q.2 / (gcdL ps : Int)).natAbs ≤ q.2.natAbs := Int.natAbs_ediv_le_natAbs ..
    show (q.2 / (gcdL ps : Int)).natAbs < 2 ^ 64
    omega
theorem eqv_str (a b : PySem.Str) : PyData.eqv (.str a) (.str b) = (a == b) := by
  simp [PyData.eqv]
theorem neD_str (a b : PySem.Str) : neD (.str a) (.str b) = .ok (.bool (!(a == b))) := by
  simp [neD, fitD, eqv_str]
theorem eqD_str (a b : PySem.Str) : eqD (.str a) (.str b) = .ok (.bool (a == b)) := by
  simp [eqD, fitD, eqv_str]
theorem small_of {i : Int} (h0 : 0 ≤ i) (h : i < 2 ^ 64) : smallI i = true := by
  unfold smallI
  simp only [Bool.and_eq_true, decide_eq_true_eq]
  omega
theorem mod_pos {i j : Int} (hj : 0 < j) : modD (.int i) (.int j) = .ok (.int (i % j)) := by
  show (if j ≠ 0 then Out.ok (PyData.int (i.fmod j)) else .stuck) = _
  rw [if_pos (by omega), Int.fmod_eq_emod_of_nonneg _ (by omega)]
theorem fdiv_small {i j : Int} (h : 0 < j) (hl : j < 1073741824) : fdivD (.int i) (.int j) = .ok (.int (i / j)) := by
  show (if j ≠ 0 ∧ j.natAbs < 1073741824 then Out.ok (PyData.int (i.fdiv j)) else if 0 < j ∧ j.natAbs.log2 < 9000 then .ok (.int (i / j)) else .stuck) = _
  rw [if_pos ⟨by omega, by omega⟩, Int.fdiv_eq_ediv_of_nonneg _ (by omega)]
theorem pow_ok {i j : Int} (h : 0 ≤ j) (h1 : j ≤ 1000000) (h2 : i.natAbs < 2 ^ 64) : powD (.int i) (.int j) = .ok (.int (i ^ j.toNat)) := if_pos ⟨h, h1, h2⟩
theorem cut_to {α : Type} (xs : List α) (k : Nat) : Mp.cutD xs none (some (k : Int)) = xs.take k := by
  unfold Mp.cutD
  have e : HT.sIx xs.length 0 none = 0 := by
    unfold HT.sIx
    simp
  have e2 : HT.sIx xs.length xs.length (some (k : Int)) = min k xs.length := by
    have hk : ¬ ((k : Int) < 0) := by omega
    unfold HT.sIx
    simp [hk]
  rw [e, e2]
  simp [List.take_eq_take_min]
def nums (ds : List Int) : D := .list (ds.map .int)
theorem draws_run (n : Nat) {ns : List Int} {many : Nat} (hm : many ≤ 1000) (hl : ns.length ≤ 63) : ∃ ds : List Int, run P (n + 1) 17 [nums ns, .int (many : Nat)] = .ok (nums ds) ∧ ds.length = many ∧ ∀ d ∈ ds, 0 ≤ d := by
  have hz : (10000 : Nat) ≤ sizeLine := by decide
  obtain ⟨b1, hb1⟩ : ∃ b, b = (Ss.cons (.ite (.cmp .gt (.varB 5) (.lit (.int 0)))
    (.cons (.app 2 (.bin .mod (.bi .int (.cons (.varB 5) .nil)) (.lit (.int 1009))))
    (.cons (.set 5 (.bin .fdiv (.varB 5) (.lit (.int 1009)))) .nil)) .nil) .nil) := ⟨_, rfl⟩
  -- the digits of one large cell
  have inner : ∀ (ds : List Int) (x s : Int) (o4 o6 : Option (Bool × D)), 0 ≤ x → (∀ d ∈ ds, 0 ≤ d) → ds.length ≤ 5000 → ∃ (ds' : List Int) (x' : Int) (o6' : Option (Bool × D)),
      forL (.nm 6) (exs (run P n) b1) (rangeI 0 60) [some (false, nums ns), some (false, .int (many : Nat)), some (true, nums ds), some (false, .int s), o4, some (false, .int x), o6] =
        .nx [some (false, nums ns), some (false, .int (many : Nat)), some (true, nums ds'), some (false, .int s), o4, some (false, .int x'), o6'] ∧ 0 ≤ x' ∧ (∀ d ∈ ds', 0 ≤ d) ∧ ds'.length ≤ ds.length + 60 := by
    intro ds x s o4 o6 hx hd hlen
    obtain ⟨ρ', e, ds', x', o6', h1, h2, h3, h4⟩ := forL_inv (t := .nm 6) (fb := exs (run P n) b1)
      (fun l ρ => ∃ (ds' : List Int) (x' : Int) (o6' : Option (Bool × D)), ρ = [some (false, nums ns), some (false, .int (many : Nat)), some (true, nums ds'), some (false, .int s), o4, some (false, .int x'), o6'] ∧ 0 ≤ x' ∧ (∀ d ∈ ds', 0 ≤ d) ∧ ds'.length + l.length ≤ ds.length + 60)
      (ds := rangeI 0 60) (ρ := [some (false, nums ns), some (false, .int (many : Nat)), some (true, nums ds), some (false, .int s), o4, some (false, .int x), o6])
      ⟨ds, x, o6, rfl, hx, hd, by simp [rangeI]⟩ (fun d l ρ ⟨ds', x', o6', h1, h2, h3, h4⟩ => by
        subst h1
        rw [List.length_cons] at h4
        by_cases hp : 0 < x'
        · refine ⟨_, _, rfl, .inl ?_, ds' ++ [x' % 1009], x' / 1009, some (false, d), rfl, by omega, ?_, by rw [List.length_append, List.length_singleton]; omega⟩
          · subst hb1
            have ha := appD_at (ρ := [some (false, nums ns), some (false, .int (many : Nat)), some (true, nums ds'), some (false, .int s), o4, some (false, .int x'), some (false, d)]) (i := 2) (ds := ds'.map .int) (.int (x' % 1009)) rfl (by rw [List.length_map]; omega)
            simp [hp, mod_pos (i := x') (j := 1009) (by decide), fdiv_small (i := x') (j := 1009) (by decide) (by decide), nums]
            simp only [nums] at ha
            rw [ha]
            simp [fdiv_small (i := x') (j := 1009) (by decide) (by decide)]
          · intro d' hd'
            rcases List.mem_append.mp hd' with hd' | hd'
            · exact h3 d' hd'
            · rw [List.mem_singleton.mp hd']
              omega
        · refine ⟨_, _, rfl, .inl ?_, ds', x', some (false, d), rfl, h2, h3, by omega⟩
          subst hb1
          simp [hp])
    subst h1
    exact ⟨ds', x', o6', e, h2, h3, by simpa using h4⟩
  obtain ⟨b0, hb0⟩ : ∃ b, b = (Ss.cons (.set 5 (.bi .abs (.cons (.varB 4) .nil)))
    (.cons (.set 3 (.bin .mod (.bi .int (.cons (.bin .add (.bin .add (.bin .mul (.varB 3) (.lit (.int 48271))) (.varB 5)) (.lit (.int 11))) .nil)) (.lit (.int 2147483647))))
    (.cons (.ite (.cmp .ge (.varB 5) (.bin .pow (.lit (.int 10)) (.lit (.int 18))))
      (.cons (.for_ (.nm 6) (.rg1 (.cons (.lit (.int 60)) .nil)) b1) .nil)
      (.cons (.app 2 (.bin .mod (.bin .fdiv (.bi .int (.cons (.bin .add (.bin .mul (.varB 3) (.lit (.int 16807))) (.lit (.int 5))) .nil)) (.lit (.int 3))) (.lit (.int 65521)))) .nil)) .nil))) := ⟨_, rfl⟩
  have one : ∀ (x s : Int) (ds : List Int) (o5 o6 : Option (Bool × D)), 0 ≤ s → s < 2147483647 → (∀ d ∈ ds, 0 ≤ d) → ds.length ≤ 4000 → ∃ (ds' : List Int) (s' : Int) (o4' o5' o6' : Option (Bool × D)),
      exs (run P n) b0 [some (false, nums ns), some (false, .int (many : Nat)), some (true, nums ds), some (false, .int s), some (false, .int x), o5, o6] =
        .nx [some (false, nums ns), some (false, .int (many : Nat)), some (true, nums ds'), some (false, .int s'), o4', o5', o6'] ∧ 0 ≤ s' ∧ s' < 2147483647 ∧ (∀ d ∈ ds', 0 ≤ d) ∧ ds'.length ≤ ds.length + 60 := by
    intro x s ds o5 o6 hs0 hs1 hd hlen
    have hss := small_of hs0 (by omega)
    subst hb0
    have hm0 := mod_pos (i := s * 48271 + (if x < 0 then -x else x) + 11) (j := 2147483647) (by decide)
    obtain ⟨K, hp⟩ : ∃ K : Int, powD (.int 10) (.int 18) = .ok (.int K) := ⟨_, pow_ok (by decide) (by decide) (by decide)⟩
    generalize hs' : (s * 48271 + (if x < 0 then -x else x) + 11) % 2147483647 = s' at hm0
    have h1 : 0 ≤ s' := by omega
    have h2 : s' < 2147483647 := by omega
    have hss' := small_of h1 (by omega)
    by_cases hbig : K ≤ (if x < 0 then -x else x)
    · obtain ⟨ds', x', o6', e, h3, h4, h5⟩ := inner ds (if x < 0 then -x else x) s' (some (false, .int x)) o6 (by split <;> omega) hd (by omega)
      refine ⟨ds', s', some (false, .int x), some (false, .int x'), o6', ?_, h1, h2, h4, h5⟩
      have hr : range1D [.int 60] = .ok (rangeI 0 60) := by
        have : okR 60 = true := by decide
        simp [range1D, this]
      simp only [exs_cons, ex_set, ev_bi, evs_cons, ev_varB, evs_nil, getB_0, getB_s, ok_bind, bf_abs, abs_int, ok_st, List.set_cons_zero, List.set_cons_succ, nx_seq, ev_bin, f_mod, f_add, f_mul, ev_lit, mul_small (.inl hss), addD_int, bf_int, int_int, hm0, ex_ite, evT_cmp, o_ge, f_pow, hp, geD_int, boolD_bool]
      have hd1 : decide (K ≤ (if x < 0 then -x else x)) = true := decide_eq_true hbig
      simp only [hd1, if_true, exs_cons, ex_for, evI_rg1, evs_cons, ev_lit, evs_nil, ok_bind, hr, ok_st, e, nx_seq, exs_nil]
    · have ha := appD_at (ρ := [some (false, nums ns), some (false, .int (many : Nat)), some (true, nums ds), some (false, .int s'), some (false, .int x), some (false, .int (if x < 0 then -x else x)), o6]) (i := 2) (ds := ds.map .int) (.int ((s' * 16807 + 5) / 3 % 65521)) rfl (by rw [List.length_map]; omega)
      refine ⟨ds ++ [(s' * 16807 + 5) / 3 % 65521], s', some (false, .int x), some (false, .int (if x < 0 then -x else x)), o6, ?_, h1, h2, ?_, by rw [List.length_append, List.length_singleton]; omega⟩
      · simp only [exs_cons, ex_set, ev_bi, evs_cons, ev_varB, evs_nil, getB_0, getB_s, ok_bind, bf_abs, abs_int, ok_st, List.set_cons_zero, List.set_cons_succ, nx_seq, ev_bin, f_mod, f_add, f_mul, ev_lit, mul_small (.inl hss), addD_int, bf_int, int_int, hm0, ex_ite, evT_cmp, o_ge, f_pow, hp, geD_int, boolD_bool]
        have hd1 : decide (K ≤ (if x < 0 then -x else x)) = false := decide_eq_false hbig
        have hown : ownL 2 [some (false, nums ns), some (false, .int (many : Nat)), some (true, nums ds), some (false, .int s'), some (false, .int x), some (false, .int (if x < 0 then -x else x)), o6] = true := rfl
        simp only [hd1, Bool.false_eq_true, if_false, exs_cons, ex_app, hown, if_true, ev_bin, ev_bi, evs_cons, evs_nil, ev_varB, getB_s, getB_0, ev_lit, ok_bind, f_mod, f_fdiv, f_add, f_mul, mul_small (.inl hss'), addD_int, bf_int, int_int, fdiv_small (i := s' * 16807 + 5) (j := 3) (by decide) (by decide), mod_pos (i := (s' * 16807 + 5) / 3) (j := 65521) (by decide), ok_st, ha, nx_seq, exs_nil, List.set_cons_succ, List.set_cons_zero]
        simp [nums]
      · intro d' hd'
        rcases List.mem_append.mp hd' with hd' | hd'
        · exact hd d' hd'
        · rw [List.mem_singleton.mp hd']
          omega
  obtain ⟨ρ1, e1, ds1, s1, a4, a5, a6, hρ1, hs10, hs11, hd1, hl1⟩ := forL_inv (t := .nm 4) (fb := exs (run P n) b0)
    (fun l ρ => (∃ (ds : List Int) (s : Int) (o4 o5 o6 : Option (Bool × D)), ρ = [some (false, nums ns), some (false, .int (many : Nat)), some (true, nums ds), some (false, .int s), o4, o5, o6] ∧ 0 ≤ s ∧ s < 2147483647 ∧ (∀ d ∈ ds, 0 ≤ d) ∧ ds.length + 60 * l.length ≤ 3780 ∧ ∀ d ∈ l, ∃ i : Int, d = .int i))
    (ds := ns.map .int) (ρ := [some (false, nums ns), some (false, .int (many : Nat)), some (true, nums []), some (false, .int 7), none, none, none])
    ⟨[], 7, none, none, none, rfl, by decide, by decide, (fun d hd => nomatch hd), by rw [List.length_nil, List.length_map]; omega, fun d hd => by obtain ⟨i, _, rfl⟩ := List.mem_map.mp hd; exact ⟨i, rfl⟩⟩
    (fun d l ρ ⟨ds, s, o4, o5, o6, h1, h2, h3, h4, h5, h6⟩ => by
      subst h1
      rw [List.length_cons] at h5
      obtain ⟨i, rfl⟩ := h6 d (List.mem_cons_self ..)
      obtain ⟨ds', s', o4', o5', o6', e, g1, g2, g3, g4⟩ := one i s ds o5 o6 h2 h3 h4 (by omega)
      exact ⟨_, _, rfl, .inl e, ds', s', o4', o5', o6', rfl, g1, g2, g3, by omega, fun d hd => h6 d (List.mem_cons_of_mem _ hd)⟩)
  subst hρ1
  obtain ⟨b2, hb2⟩ : ∃ b, b = (Ss.cons (.ite (.cmp .lt (.bi .len (.cons (.varB 2) .nil)) (.varB 1))
    (.cons (.set 3 (.bin .mod (.bi .int (.cons (.bin .add (.bin .add (.bin .mul (.varB 3) (.lit (.int 69621))) (.varB 6)) (.lit (.int 1))) .nil)) (.lit (.int 2147483647))))
    (.cons (.app 2 (.bin .mod (.bin .fdiv (.bi .int (.cons (.varB 3) .nil)) (.lit (.int 7))) (.lit (.int 65521)))) .nil)) .nil) .nil) := ⟨_, rfl⟩
  obtain ⟨ρ2, e2, ds2, s2, c6, hρ2, hs20, hs21, hd2, hl2, hl3⟩ := forL_inv (t := .nm 6) (fb := exs (run P n) b2)
    (fun l ρ => (∃ (ds : List Int) (s : Int) (o6 : Option (Bool × D)), ρ = [some (false, nums ns), some (false, .int (many : Nat)), some (true, nums ds), some (false, .int s), a4, a5, o6] ∧ 0 ≤ s ∧ s < 2147483647 ∧ (∀ d ∈ ds, 0 ≤ d) ∧ ds.length + l.length ≤ 5000 ∧ many ≤ ds.length + l.length ∧ ∀ d ∈ l, ∃ i : Int, d = .int i))
    (ds := rangeI 0 many) (ρ := [some (false, nums ns), some (false, .int (many : Nat)), some (true, nums ds1), some (false, .int s1), a4, a5, a6])
    ⟨ds1, s1, a6, rfl, hs10, hs11, hd1, by simp [rangeI]; simp at hl1; omega, by simp [rangeI], fun d hd => by unfold rangeI at hd; obtain ⟨i, _, rfl⟩ := List.mem_map.mp hd; exact ⟨_, rfl⟩⟩
    (fun d l ρ ⟨ds, s, o6, h1, h2, h3, h4, h5, h6, h7⟩ => by
      subst h1
      rw [List.length_cons] at h5 h6
      obtain ⟨i, rfl⟩ := h7 d (List.mem_cons_self ..)
      have hss := small_of h2 (by omega)
      by_cases hlt : ds.length < many
      · refine ⟨_, _, rfl, .inl ?_, ds ++ [(s * 69621 + i + 1) % 2147483647 / 7 % 65521], (s * 69621 + i + 1) % 2147483647, some (false, .int i), rfl, by omega, by omega, ?_, by rw [List.length_append, List.length_singleton]; omega, by rw [List.length_append, List.length_singleton]; omega, fun d hd => h7 d (List.mem_cons_of_mem _ hd)⟩
        · subst hb2
          have ha := appD_at (ρ := [some (false, nums ns), some (false, .int (many : Nat)), some (true, nums ds), some (false, .int ((s * 69621 + i + 1) % 2147483647)), a4, a5, some (false, .int i)]) (i := 2) (ds := ds.map .int) (.int ((s * 69621 + i + 1) % 2147483647 / 7 % 65521)) rfl (by rw [List.length_map]; omega)
          have hlt' : ((ds.length : Nat) : Int) < (many : Int) := by omega
          simp [nums, hlt', hlt, mul_small (.inl hss), mod_pos (i := s * 69621 + i + 1) (j := 2147483647) (by decide), fdiv_small (i := (s * 69621 + i + 1) % 2147483647) (j := 7) (by decide) (by decide), mod_pos (i := (s * 69621 + i + 1) % 2147483647 / 7) (j := 65521) (by decide)]
          simp only [nums] at ha
          rw [ha]
          simp
        · intro d' hd'
          rcases List.mem_append.mp hd' with hd' | hd'
          · exact h4 d' hd'
          · rw [List.mem_singleton.mp hd']
            omega
      · refine ⟨_, _, rfl, .inl ?_, ds, s, some (false, .int i), rfl, h2, h3, h4, by omega, by omega, fun d hd => h7 d (List.mem_cons_of_mem _ hd)⟩
        subst hb2
        simp [nums, hlt])
  subst hρ2
  refine ⟨ds2.take many, ?_, by rw [List.length_take]; simp at hl3; omega, fun d hd => hd2 d (List.mem_of_mem_take hd)⟩
  rw [run_at lk__law_draws rfl]
  have hcut : Mp.cutD (ns.map PyData.int) none (some 63) = ns.map PyData.int := by
    have := cut_to (ns.map PyData.int) 63
    rw [show ((63 : Nat) : Int) = 63 from rfl] at this
    rw [this, List.take_of_length_le (by rw [List.length_map]; exact hl)]
  have hcut2 := cut_to (ds2.map PyData.int) many
  have hr : range1D [.int (many : Int)] = .ok (rangeI 0 many) := by
    have : okR (many : Int) = true := by
      unfold okR
      simp only [Bool.and_eq_true, decide_eq_true_eq]
      omega
    simp [range1D, this]
  subst hb0 hb2 hb1
  simp only [nums, List.map_nil] at e1 e2 ⊢
  simp -implicitDefEqProofs only [c__law_draws, rho0, List.map_cons, List.map_nil, List.length_cons, List.length_nil, List.replicate, List.cons_append, List.nil_append, exs_cons, ex_setF, ev_lst, evs_nil, ok_bind, lstD_nil, ok_st, nx_seq, List.set_cons_succ, List.set_cons_zero, ex_set, ev_lit, ex_for, evI_pl, ev_slice, ev_varB, getB_0, getB_s, evO_no, evO_yes, partD, sliceD, hcut, items_list, e1, evI_rg1, evs_cons, ev_var, getV_s, getV_0, hr, e2, ex_ret, hcut2, exs_nil, ret_seq, ret_fin]
  rw [List.map_take]
def nmOf (c : Nat) : PySem.Str := ⟨#[c]⟩
theorem alike_pr (p q : PySem.Str × Int) : PySem.W.alike (pr p) (pr q) = true := by
  simp [pr, PySem.W.alike, PySem.W.alikeAll]
theorem dataLt_pr {p q : PySem.Str × Int} (h : ltS p.1 q.1 = true) : PySem.W.dataLt (pr q) (pr p) = false := by
  unfold pr
  rw [PySem.W.dataLt_pair (by simp [PySem.W.alike]) (by simp [PySem.W.alike]), eqv_str]
  have h1 := ltS_ne h
  have h2 : (q.1 == p.1) = false := by
    simp only [beq_eq_false_iff_ne]
    exact fun z => h1 z.symm
  rw [h2, if_neg (by simp), dataLt_str]
  unfold ltS at *
  simp only [decide_eq_true_eq, decide_eq_false_iff_not] at *
  exact Std.not_lt.mpr (Std.le_of_lt h)
theorem sorted_pr {ps : Ps} (h : (ps.map (·.1)).Pairwise fun a b => ltS a b = true) : sortedF (.list (ps.map pr)) = .ok (.list (ps.map pr)) := by
  have e1 : fitAll dpt (ps.map pr) = true := by
    induction ps with
    | nil => rfl
    | cons p ps ih =>
      rw [List.map_cons] at h ⊢
      have := ih (List.pairwise_cons.mp h).2
      simp [fitAll, fitD, pr] at this ⊢
      exact this
  have e2 : alikeB (ps.map pr) = true := by
    unfold alikeB
    simp only [List.all_eq_true, List.mem_map]
    rintro d ⟨p, _, rfl⟩ e ⟨q, _, rfl⟩
    exact alike_pr p q
  have e3 : sortB (ps.map pr) = true := by
    unfold sortB
    have : (ps.map pr).all tupHd = true := by
      simp only [List.all_eq_true, List.mem_map]
      rintro d ⟨p, _, rfl⟩
      rfl
    rw [this]
    rfl
  have e4 : sortL (ps.map pr) = ps.map pr := by
    unfold sortL
    refine List.mergeSort_of_pairwise ?_
    rw [List.pairwise_map] at h ⊢
    refine h.imp fun {p q} hpq => ?_
    rw [PySem.W.dataLe_eq]
    simp only [id, cond_false, dataLt_pr hpq, Bool.not_false]
  simp only [sortedF]
  rw [if_pos ⟨e1, e2, e3⟩, e4]
theorem fmap_congr {α β : Type} {f g : α → Option β} : ∀ {l : List α}, (∀ x ∈ l, f x = g x) → l.filterMap f = l.filterMap g
  | [], _ => rfl
  | x :: l, h => by
    rw [List.filterMap_cons, List.filterMap_cons, h x (List.mem_cons_self ..), fmap_congr fun y hy => h y (List.mem_cons_of_mem _ hy)]
def L4 : List PySem.Str := ["a", "b", "c", "d"]
def cf (g : PySem.Str → Int) : Ps := L4.filterMap fun x => if g x = 0 then none else some (x, g x)
def fm (k : Int) (g : PySem.Str → Int) : D := frm k (cf g)
theorem cf_congr {g h : PySem.Str → Int} (e : ∀ x ∈ L4, g x = h x) : cf g = cf h := by
  unfold cf
  refine fmap_congr fun x hx => ?_
  rw [e x hx]
theorem fm_congr {k l : Int} {g h : PySem.Str → Int} (ek : k = l) (e : ∀ x ∈ L4, g x = h x) : fm k g = fm l h := by
  unfold fm
  rw [ek, cf_congr e]
theorem L4_asc : L4.Pairwise fun a b => ltS a b = true := by decide
theorem L4_nodup : L4.Nodup := by decide
theorem cf_names (g : PySem.Str → Int) : (cf g).map (·.1) = L4.filter fun x => !decide (g x = 0) := by
  unfold cf
  generalize L4 = l
  induction l with
  | nil => rfl
  | cons x l ih =>
    rw [List.filterMap_cons, List.filter_cons]
    by_cases h : g x = 0
    · simp only [h, if_true, decide_true, Bool.not_true, Bool.false_eq_true, if_false]
      exact ih
    · simp only [h, if_false, decide_false, Bool.not_false, if_true, List.map_cons]
      rw [ih]
theorem cf_asc (g : PySem.Str → Int) : ((cf g).map (·.1)).Pairwise fun a b => ltS a b = true := by
  rw [cf_names]
  exact L4_asc.sublist List.filter_sublist
theorem cf_len (g : PySem.Str → Int) : (cf g).length ≤ 4 := by
  unfold cf
  exact List.length_filterMap_le _ _
theorem cf_mem {g : PySem.Str → Int} {p : PySem.Str × Int} (h : p ∈ cf g) : p.1 ∈ L4 ∧ p.2 = g p.1 ∧ g p.1 ≠ 0 := by
  unfold cf at h
  obtain ⟨x, hx, e⟩ := List.mem_filterMap.mp h
  split at e
  · cases e
  · rename_i hz
    cases e
    exact ⟨hx, rfl, hz⟩
/-- the factor of a name -/
def co : Ps → PySem.Str → Int
  | [], _ => 0
  | p :: ps, x => (if p.1 = x then p.2 else 0) + co ps x
theorem co_none {ps : Ps} {x : PySem.Str} (h : ∀ p ∈ ps, p.1 ≠ x) : co ps x = 0 := by
  induction ps with
  | nil => rfl
  | cons p ps ih =>
    unfold co
    rw [if_neg (h p (List.mem_cons_self ..)), ih fun q hq => h q (List.mem_cons_of_mem _ hq)]
    rfl
theorem co_fm (g : PySem.Str → Int) (x : PySem.Str) : ∀ {l : List PySem.Str}, l.Nodup → co (l.filterMap fun x => if g x = 0 then none else some (x, g x)) x = if x ∈ l then g x else 0
  | [], _ => rfl
  | y :: l, hn => by
    obtain ⟨h1, h2⟩ := List.nodup_cons.mp hn
    have ih := co_fm g x h2
    rw [List.filterMap_cons]
    by_cases e : y = x
    · subst e
      rw [if_pos (List.mem_cons_self ..)]
      rw [if_neg h1] at ih
      by_cases hz : g y = 0
      · simp only [hz, if_true]
        simpa only [hz, if_true] using ih
      · simp only [hz, if_false, co, if_true]
        rw [ih]
        omega
    · have hm : (x ∈ y :: l) ↔ x ∈ l := by simp [Ne.symm e]
      rw [show (if x ∈ y :: l then g x else 0) = (if x ∈ l then g x else 0) by simp only [hm], ← ih]
      by_cases hz : g y = 0
      · simp only [hz, if_true]
      · simp only [hz, if_false, co, e]
        omega
theorem co_cf {g : PySem.Str → Int} {x : PySem.Str} (hx : x ∈ L4) : co (cf g) x = g x := by
  have := co_fm g x L4_nodup
  rw [if_pos hx] at this
  exact this
def lk0 (es : Ps) (x : PySem.Str) : Int := (es.lookup x).getD 0
theorem lookup_map_self {k : PySem.Str} {v : Int} : ∀ (es : Ps) (x : PySem.Str), (es.map fun p => if (p.1 == k) = true then (p.1, v) else p).lookup x = if (es.lookup x).isSome = true ∧ x = k then some v else es.lookup x
  | [], x => rfl
  | p :: es, x => by
    have ih := lookup_map_self (k := k) (v := v) es x
    rw [List.map_cons]
    by_cases h : p.1 = k
    · have hb : (p.1 == k) = true := by simpa using h
      rw [if_pos hb, List.lookup_cons, List.lookup_cons]
      by_cases e : x = p.1
      · have eb : (x == p.1) = true := by simpa using e
        rw [eb]
        simp [e, h]
      · have eb : (x == p.1) = false := by simpa using e
        rw [eb]
        exact ih
    · have hb : (p.1 == k) = false := by simpa using h
      rw [hb]
      simp only [Bool.false_eq_true, if_false]
      rw [List.lookup_cons, List.lookup_cons]
      by_cases e : x = p.1
      · have eb : (x == p.1) = true := by simpa using e
        rw [eb]
        have : x ≠ k := fun z => h (e.symm.trans z)
        simp [this]
      · have eb : (x == p.1) = false := by simpa using e
        rw [eb]
        exact ih
theorem lookup_app (es fs : Ps) (x : PySem.Str) : (es ++ fs).lookup x = (es.lookup x).or (fs.lookup x) := by
  induction es with
  | nil => simp
  | cons p es ih =>
    rw [List.cons_append, List.lookup_cons, List.lookup_cons]
    split
    · rfl
    · exact ih
theorem lookup_isSome {es : Ps} {x : PySem.Str} : (es.lookup x).isSome = true ↔ x ∈ es.map (·.1) := by
  induction es with
  | nil => simp
  | cons p es ih =>
    rw [List.lookup_cons, List.map_cons, List.mem_cons]
    by_cases e : x = p.1
    · have eb : (x == p.1) = true := by simpa using e
      rw [eb]
      simp [e]
    · have eb : (x == p.1) = false := by simpa using e
      rw [eb]
      rw [ih]
      simp [e]
theorem lookup_putA (es : Ps) (k : PySem.Str) (v : Int) (x : PySem.Str) : (putA es k v).lookup x = if x = k then some v else es.lookup x := by
  unfold putA
  by_cases h : (es.any fun p => p.1 == k) = true
  · rw [if_pos h, lookup_map_self]
    by_cases e : x = k
    · subst e
      have : (es.lookup x).isSome = true := by
        rw [lookup_isSome]
        obtain ⟨p, hp, e⟩ := List.any_eq_true.mp h
        exact List.mem_map.mpr ⟨p, hp, by simpa using e⟩
      simp [this]
    · simp [e]
  · rw [if_neg h, lookup_app]
    by_cases e : x = k
    · subst e
      have : es.lookup x = none := by
        cases q : es.lookup x with
        | none => rfl
        | some w =>
          exfalso
          have : (es.lookup x).isSome = true := by rw [q]; rfl
          rw [lookup_isSome] at this
          obtain ⟨p, hp, e⟩ := List.mem_map.mp this
          exact h (List.any_eq_true.mpr ⟨p, hp, by simpa using e⟩)
      rw [this]
      simp [List.lookup_cons]
    · have eb : (x == k) = false := by simpa using e
      simp [List.lookup_cons, eb, e]
theorem keys_putA (es : Ps) (k : PySem.Str) (v : Int) : (putA es k v).map (·.1) = if k ∈ es.map (·.1) then es.map (·.1) else es.map (·.1) ++ [k] := by
  unfold putA
  have hiff : (es.any fun p => p.1 == k) = true ↔ k ∈ es.map (·.1) := by
    rw [List.any_eq_true, List.mem_map]
    simp
  by_cases h : k ∈ es.map (·.1)
  · rw [if_pos (hiff.mpr h), if_pos h, List.map_map]
    refine List.map_congr_left fun p _ => ?_
    show (if (p.1 == k) = true then (p.1, v) else p).1 = p.1
    split <;> rfl
  · rw [if_neg (fun z => h (hiff.mp z)), if_neg h, List.map_append]
    rfl
theorem lk0_E1 {k : Int} {ps : Ps} (h : (ps.map (·.1)).Pairwise fun a b => ltS a b = true) (x : PySem.Str) : lk0 (E1 k ps) x = k * co ps x := by
  rw [E1_eq h]
  induction ps with
  | nil => simp [lk0, co]
  | cons p ps ih =>
    rw [List.map_cons] at h
    obtain ⟨h1, h2⟩ := List.pairwise_cons.mp h
    have ih := ih h2
    unfold lk0 at ih ⊢
    rw [List.map_cons, List.lookup_cons]
    by_cases e : x = p.1
    · subst e
      have hz : co ps p.1 = 0 := co_none fun q hq => fun z => ltS_ne (h1 q.1 (List.mem_map.mpr ⟨q, hq, rfl⟩)) z.symm
      simp [co, hz]
    · have eb : (x == p.1) = false := by simpa using e
      rw [eb]
      have en : ¬ p.1 = x := fun z => e z.symm
      simp only [co, en, if_false, Int.zero_add]
      exact ih
theorem lk0_fold (f : Int) : ∀ (qs es : Ps) (x : PySem.Str), lk0 (qs.foldl (fun es q => putA es q.1 ((es.lookup q.1).getD 0 + f * q.2)) es) x = lk0 es x + f * co qs x
  | [], es, x => by simp [co]
  | q :: qs, es, x => by
    rw [List.foldl_cons, lk0_fold f qs]
    unfold lk0
    rw [lookup_putA]
    by_cases e : x = q.1
    · subst e
      simp only [if_true, Option.getD_some, co, Int.mul_add]
      omega
    · have en : ¬ q.1 = x := fun z => e z.symm
      simp only [e, if_false, co, en, Int.zero_add]
theorem lk0_E2 {k f : Int} {ps qs : Ps} (h : (ps.map (·.1)).Pairwise fun a b => ltS a b = true) (x : PySem.Str) : lk0 (E2 k f ps qs) x = k * co ps x + f * co qs x := by
  unfold E2
  rw [lk0_fold, lk0_E1 h]
theorem keys_fold (f : Int) : ∀ (qs es : Ps), (es.map (·.1)).Nodup → (∀ p ∈ es, p.1 ∈ L4) → (∀ p ∈ qs, p.1 ∈ L4) →
    ((qs.foldl (fun es q => putA es q.1 ((es.lookup q.1).getD 0 + f * q.2)) es).map (·.1)).Nodup ∧ ∀ p ∈ qs.foldl (fun es q => putA es q.1 ((es.lookup q.1).getD 0 + f * q.2)) es, p.1 ∈ L4
  | [], es, hn, he, _ => ⟨hn, he⟩
  | q :: qs, es, hn, he, hq => by
    rw [List.foldl_cons]
    have hk := keys_putA es q.1 ((es.lookup q.1).getD 0 + f * q.2)
    have hmem : ∀ y ∈ (putA es q.1 ((es.lookup q.1).getD 0 + f * q.2)).map (·.1), y ∈ L4 := fun y hy => by
      rw [hk] at hy
      have h1 : ∀ z ∈ es.map (·.1), z ∈ L4 := fun z hz => by
        obtain ⟨p, hp, rfl⟩ := List.mem_map.mp hz
        exact he p hp
      split at hy
      · exact h1 y hy
      · rcases List.mem_append.mp hy with hy | hy
        · exact h1 y hy
        · rw [List.mem_singleton.mp hy]
          exact hq q (List.mem_cons_self ..)
    refine keys_fold f qs _ ?_ (fun p hp => hmem _ (List.mem_map.mpr ⟨p, hp, rfl⟩)) fun p hp => hq p (List.mem_cons_of_mem _ hp)
    rw [hk]
    split
    · exact hn
    · rename_i hni
      refine List.nodup_append.mpr ⟨hn, List.nodup_cons.mpr ⟨by simp, List.nodup_nil⟩, fun a ha b hb => ?_⟩
      rw [List.mem_singleton.mp hb]
      exact fun e => hni (by rw [← e]; exact ha)
theorem sort_L4 {xs : List PySem.Str} (hn : xs.Nodup) (hs : ∀ x ∈ xs, x ∈ L4) : sortS xs = L4.filter fun x => decide (x ∈ xs) := by
  have h2 : (sortS xs).Pairwise (fun a b => leS a b = true) := List.pairwise_mergeSort leS_trans leS_total xs
  have h1 : (L4.filter fun x => decide (x ∈ xs)).Pairwise (fun a b => leS a b = true) := (L4_asc.sublist List.filter_sublist).imp ltS_le
  have hp : (L4.filter fun x => decide (x ∈ xs)).Perm xs := by
    have a : ∀ k, k ∈ xs ↔ k ∈ L4.filter fun x => decide (x ∈ xs) := fun k => by
      rw [List.mem_filter]
      exact ⟨fun h => ⟨hs k h, by simpa using h⟩, fun h => by simpa using h.2⟩
    have n2 : (L4.filter fun x => decide (x ∈ xs)).Nodup := L4_nodup.sublist List.filter_sublist
    have l1 := len_le hn a
    have l2 := len_le n2 fun k => (a k).symm
    exact perm_of_sub hn (fun k hk => (a k).mp hk) (by omega)
  exact ((List.mergeSort_perm xs leS).trans hp.symm).eq_of_pairwise (fun a b _ _ => leS_anti a b) h2 h1
theorem comb_cf (k f : Int) (g h : PySem.Str → Int) : comb k f (cf g) (cf h) = cf fun x => k * g x + f * h x := by
  have hE : E1 k (cf g) = (cf g).map fun p => (p.1, k * p.2) := E1_eq (cf_asc g)
  obtain ⟨n1, n2⟩ := keys_fold f (cf h) (E1 k (cf g)) (by
    rw [hE, List.map_map]
    show ((cf g).map (·.1)).Nodup
    rw [cf_names]
    exact L4_nodup.sublist List.filter_sublist) (fun p hp => by
    rw [hE] at hp
    obtain ⟨q, hq, rfl⟩ := List.mem_map.mp hp
    exact (cf_mem hq).1) fun p hp => (cf_mem hp).1
  replace n1 : ((E2 k f (cf g) (cf h)).map (·.1)).Nodup := n1
  replace n2 : ∀ p ∈ E2 k f (cf g) (cf h), p.1 ∈ L4 := n2
  have e0 : ∀ x ∈ L4, (fun y => lk0 (E2 k f (cf g) (cf h)) y) x = (fun x => k * g x + f * h x) x := fun x hx => by
    show lk0 _ x = _
    rw [lk0_E2 (cf_asc g), co_cf hx, co_cf hx]
  rw [← cf_congr e0]
  show (sortS ((E2 k f (cf g) (cf h)).map (·.1))).filterMap (pick (E2 k f (cf g) (cf h))) = _
  rw [sort_L4 n1 fun x hx => by
    obtain ⟨p, hp, rfl⟩ := List.mem_map.mp hx
    exact n2 p hp]
  generalize E2 k f (cf g) (cf h) = es
  unfold cf
  rw [List.filterMap_filter]
  refine fmap_congr fun x _ => ?_
  unfold pick lk0
  by_cases hx : x ∈ es.map (·.1)
  · rw [if_pos (by simpa using hx)]
  · rw [if_neg (by simpa using hx)]
    have : es.lookup x = none := by
      cases q : es.lookup x with
      | none => rfl
      | some w => exact absurd (lookup_isSome.mp (by rw [q]; rfl)) hx
    simp only [this]
    rfl
def del (x : PySem.Str) (y : PySem.Str) : Int := if y = x then 1 else 0
abbrev zer : PySem.Str → Int := fun _ => 0
theorem fm_zer (k : Int) : fm k zer = .tuple [.int k, .tuple []] := rfl
theorem small1 : smallI 1 = true := by decide
theorem smallm1 : smallI (-1) = true := by decide
theorem small0 : smallI 0 = true := by decide
theorem len_cf (k : Int) (g : PySem.Str → Int) : ((cf g).map pr).length ≤ 4 := by
  rw [List.length_map]
  exact cf_len g
theorem idx1_fm (k : Int) (g : PySem.Str → Int) : idxD (fm k g) (.int 1) = .ok (.tuple ((cf g).map pr)) := rfl
theorem idx0_fm (k : Int) (g : PySem.Str → Int) : idxD (fm k g) (.int 0) = .ok (.int k) := rfl
/-- forms in a row -/
abbrev Fs := List (Int × (PySem.Str → Int))
def fms (l : Fs) : List D := l.map fun p => fm p.1 p.2
def nmsT (g : PySem.Str → Int) : D := .tuple (((cf g).map (·.1)).map .str)
def vf (c : Int) (g v : PySem.Str → Int) : Int := c + (L4.map fun x => g x * v x).sum
theorem val_cf (c : Int) (g v : PySem.Str → Int) : val c (cf g) v = vf c g v := by
  unfold val vf cf
  congr 1
  generalize L4 = l
  induction l with
  | nil => rfl
  | cons x l ih =>
    rw [List.filterMap_cons, List.map_cons, List.sum_cons]
    by_cases h : g x = 0
    · simp only [h, if_true, Int.zero_mul, Int.zero_add]
      exact ih
    · simp only [h, if_false, List.map_cons, List.sum_cons, ih]
/-- a dict of the names' values -/
structure VD (es : Ps) (v : PySem.Str → Int) : Prop where
  at_ : ∀ x ∈ L4, es.lookup x = some (v x)
  sm : ∀ x ∈ L4, smallI (v x) = true
theorem VD.vals {es : Ps} {v : PySem.Str → Int} (h : VD es v) (g : PySem.Str → Int) : Vals es v (cf g) := fun p hp => ⟨h.at_ _ (cf_mem hp).1, .inr (h.sm _ (cf_mem hp).1)⟩
/-! ## numbers as texts -/
abbrev tl (x : PySem.Str) : List Nat := x.cps.toList
def mkS (l : List Nat) : PySem.Str := ⟨l.toArray⟩
theorem tl_mkS (l : List Nat) : tl (mkS l) = l := by simp [mkS]
theorem mkS_tl (x : PySem.Str) : mkS (tl x) = x := TL.mk_tl x
theorem str_ext {x y : PySem.Str} (h : tl x = tl y) : x = y := TL.ext_tl h
theorem str_iff {x y : PySem.Str} : x = y ↔ tl x = tl y := ⟨fun h => by rw [h], str_ext⟩
theorem len_tl (x : PySem.Str) : x.length = (tl x).length := TL.len_tl x
def numZ (i : Int) : List Nat := if 0 ≤ i then TL.numL i.toNat else 45 :: TL.numL (-i).toNat
theorem tl_int (i : Int) : tl (Str.ofString (toString i)) = numZ i := by
  unfold numZ
  by_cases h : 0 ≤ i
  · rw [if_pos h]
    obtain ⟨n, rfl⟩ := Int.eq_ofNat_of_zero_le h
    exact TL.tl_num n
  · rw [if_neg h]
    obtain ⟨n, rfl⟩ : ∃ n : Nat, i = -((n + 1 : Nat) : Int) := ⟨(-i).toNat - 1, by omega⟩
    have e : toString (-((n + 1 : Nat) : Int)) = "-" ++ Nat.repr (n + 1) := rfl
    rw [e]
    show (Str.ofString ("-" ++ Nat.repr (n + 1))).cps.toList = _
    rw [signs_ofString, String.toList_append, List.map_append, Nat.toList_repr]
    have e2 : (- -((n + 1 : Nat) : Int)).toNat = n + 1 := by omega
    rw [e2]
    rfl
theorem numL_head {n : Nat} (h : 1 ≤ n) : ∃ c r, TL.numL n = c :: r ∧ c ≠ 48 := by
  induction n using Nat.strongRecOn with
  | _ n ih =>
    by_cases hn : n < 10
    · exact ⟨48 + n, [], TL.numL_lt hn, by omega⟩
    · obtain ⟨c, r, e, hc⟩ := ih (n / 10) (by omega) (by omega)
      refine ⟨c, r ++ [48 + n % 10], ?_, hc⟩
      rw [TL.numL_step (by omega), e]
      rfl
theorem numL_zero : TL.numL 0 = [48] := TL.numL_lt (by decide)
def digs (l : List Nat) : Bool := l.all fun c => decide (48 ≤ c ∧ c ≤ 57)
theorem digs_all {l : List Nat} (h : digs l = true) : NumText.AllDigits l := fun c hc => of_decide_eq_true (List.all_eq_true.mp h c hc)
theorem digs_num (n : Nat) : digs (TL.numL n) = true := List.all_eq_true.mpr fun c hc => decide_eq_true (TL.numL_digits n c hc)
theorem digits_back : ∀ (k : Nat) (l : List Nat), l.length = k → l ≠ [] → digs l = true → (l.head? ≠ some 48 ∨ l = [48]) → TL.numL (NumText.digitsVal l) = l := by
  intro k
  induction k with
  | zero => exact fun l hl hne => absurd (List.length_eq_zero_iff.mp hl) hne
  | succ k ih =>
    intro l hl hne hd hh
    obtain ⟨p, c, rfl⟩ : ∃ p c, l = p ++ [c] := ⟨l.dropLast, l.getLast hne, (List.dropLast_concat_getLast hne).symm⟩
    have hc : 48 ≤ c ∧ c ≤ 57 := digs_all hd c (List.mem_append_right _ (List.mem_singleton.mpr rfl))
    rw [NumText.digitsVal_snoc]
    by_cases hp : p = []
    · subst hp
      show TL.numL (0 * 10 + (c - 48)) = [c]
      rw [Nat.zero_mul, Nat.zero_add, TL.numL_lt (by omega)]
      congr 1
      omega
    · have hdp : digs p = true := List.all_eq_true.mpr fun x hx => List.all_eq_true.mp hd x (List.mem_append_left _ hx)
      have hhp : p.head? ≠ some 48 := by
        rcases hh with hh | hh
        · cases p with
          | nil => exact absurd rfl hp
          | cons a r => exact hh
        · have := congrArg List.length hh
          simp at this
          exact absurd this hp
      have e := ih p (by simp at hl; exact hl) hp hdp (.inl hhp)
      have hv : 1 ≤ NumText.digitsVal p := by
        rcases Nat.eq_zero_or_pos (NumText.digitsVal p) with z | z
        · rw [z, numL_zero] at e
          rw [← e] at hhp
          exact absurd rfl hhp
        · exact z
      rw [TL.numL_step (by omega)]
      have e1 : (NumText.digitsVal p * 10 + (c - 48)) / 10 = NumText.digitsVal p := by omega
      have e2 : 48 + (NumText.digitsVal p * 10 + (c - 48)) % 10 = c := by omega
      rw [e1, e2, e]
theorem digits_only {l : List Nat} (h : TL.numL (NumText.digitsVal l) = l) : l.head? ≠ some 48 ∨ l = [48] := by
  by_cases z : NumText.digitsVal l = 0
  · rw [z, numL_zero] at h
    exact .inr h.symm
  · obtain ⟨c, r, e, hc⟩ := numL_head (n := NumText.digitsVal l) (by omega)
    rw [h] at e
    rw [e]
    exact .inl fun q => hc (Option.some.inj q)
/-! ### words -/
def neg? (l : List Nat) : Bool := decide (l.take 1 = [45])
def figs (l : List Nat) : List Nat := if neg? l = true then l.drop 1 else l
def okW (l : List Nat) : Bool := decide (1 ≤ (figs l).length ∧ (figs l).length ≤ 4) && digs (figs l)
def valW (l : List Nat) : Int := if neg? l = true then -((NumText.digitsVal (figs l) : Nat) : Int) else ((NumText.digitsVal (figs l) : Nat) : Int)
theorem neg_cons {l : List Nat} (h : neg? l = true) : l = 45 :: figs l := by
  unfold figs
  rw [if_pos h]
  have h := of_decide_eq_true h
  cases l with
  | nil => cases h
  | cons a r =>
    have : a = 45 := by simpa using h
    rw [this]
    rfl
theorem okW_ok {l : List Nat} (h : okW l = true) : (1 ≤ (figs l).length ∧ (figs l).length ≤ 4) ∧ digs (figs l) = true := by
  unfold okW at h
  simp only [Bool.and_eq_true, decide_eq_true_eq] at h
  exact h
theorem len_figs (l : List Nat) : l.length ≤ (figs l).length + 1 := by
  unfold figs
  split
  · rw [List.length_drop]
    omega
  · omega
theorem int_text {l : List Nat} (h : okW l = true) : PySem.intText? (mkS l) = some (valW l) := by
  obtain ⟨⟨h1, h2⟩, h3⟩ := okW_ok h
  have hl := len_figs l
  have hne : figs l ≠ [] := fun z => by rw [z] at h1; simp at h1
  have hz : (mkS l).length ≤ 4300 := by rw [len_tl, tl_mkS]; omega
  unfold valW
  by_cases hn : neg? l = true
  · rw [if_pos hn]
    exact intText_neg (x := mkS l) (cs := figs l) (by rw [show (mkS l).cps.toList = l from tl_mkS l]; exact neg_cons hn) (digs_all h3) hne hz
  · rw [if_neg hn]
    have e : figs l = l := if_neg hn
    rw [e] at h3 hne ⊢
    have q := intText_digits (x := mkS l) (by rw [show (mkS l).cps.toList = l from tl_mkS l]; exact digs_all h3) (by rw [show (mkS l).cps.toList = l from tl_mkS l]; exact hne) hz
    rw [show (mkS l).cps.toList = l from tl_mkS l] at q
    exact q
theorem digsVal_le : ∀ {l : List Nat}, digs l = true → l.length ≤ 4 → NumText.digitsVal l ≤ 9999 := by
  intro l hd hl
  have hc := digs_all hd
  match l, hl with
  | [], _ => decide
  | [a], _ =>
    have := hc a (by simp)
    show 0 * 10 + (a - 48) ≤ 9999
    omega
  | [a, b], _ =>
    have := hc a (by simp)
    have := hc b (by simp)
    show (0 * 10 + (a - 48)) * 10 + (b - 48) ≤ 9999
    omega
  | [a, b, c], _ =>
    have := hc a (by simp)
    have := hc b (by simp)
    have := hc c (by simp)
    show ((0 * 10 + (a - 48)) * 10 + (b - 48)) * 10 + (c - 48) ≤ 9999
    omega
  | [a, b, c, d], _ =>
    have := hc a (by simp)
    have := hc b (by simp)
    have := hc c (by simp)
    have := hc d (by simp)
    show (((0 * 10 + (a - 48)) * 10 + (b - 48)) * 10 + (c - 48)) * 10 + (d - 48) ≤ 9999
    omega
  | _ :: _ :: _ :: _ :: _ :: _, hl => simp at hl
theorem valW_le {l : List Nat} (h : okW l = true) : -9999 ≤ valW l ∧ valW l ≤ 9999 := by
  obtain ⟨⟨h1, h2⟩, h3⟩ := okW_ok h
  have := digsVal_le h3 h2
  unfold valW
  split <;> omega
/-- a word is as its number is written just if it has no nought ahead -/
def lead (l : List Nat) : Bool := decide ((figs l).head? = some 48) && decide (l ≠ [48])
theorem back_iff {l : List Nat} (h : okW l = true) : numZ (valW l) = l ↔ lead l = false := by
  obtain ⟨⟨h1, h2⟩, h3⟩ := okW_ok h
  have hne : figs l ≠ [] := fun z => by rw [z] at h1; simp at h1
  unfold lead valW
  by_cases hn : neg? l = true
  · rw [if_pos hn]
    have hl := neg_cons hn
    have hl48 : l ≠ [48] := fun z => by
      rw [z] at hn
      exact absurd (of_decide_eq_true hn) (by decide)
    rw [decide_eq_true hl48, Bool.and_true, decide_eq_false_iff_not]
    constructor
    · intro e h0
      unfold numZ at e
      split at e
      · rename_i hz
        have z : NumText.digitsVal (figs l) = 0 := by omega
        rw [z] at e
        have e : TL.numL 0 = l := e
        rw [numL_zero] at e
        exact hl48 e.symm
      · rw [hl] at e
        have e2 : (- -((NumText.digitsVal (figs l) : Nat) : Int)).toNat = NumText.digitsVal (figs l) := by omega
        have hfe : figs (45 :: figs l) = figs l := by rw [← hl]
        rw [hfe, e2] at e
        injection e with _ e
        rcases digits_only e with q | q
        · exact q h0
        · have z : NumText.digitsVal (figs l) = 0 := by rw [q]; rfl
          omega
    · intro h0
      have e := digits_back _ (figs l) rfl hne h3 (.inl h0)
      have hpos : NumText.digitsVal (figs l) ≠ 0 := fun z => by
        rw [z, numL_zero] at e
        rw [← e] at h0
        exact h0 rfl
      unfold numZ
      rw [if_neg (by omega)]
      have e2 : (- -((NumText.digitsVal (figs l) : Nat) : Int)).toNat = NumText.digitsVal (figs l) := by omega
      rw [e2, e]
      exact hl.symm
  · rw [if_neg hn]
    have hf : figs l = l := if_neg hn
    rw [hf] at h3 hne ⊢
    have e1 : numZ ((NumText.digitsVal l : Nat) : Int) = TL.numL (NumText.digitsVal l) := by
      unfold numZ
      rw [if_pos (by omega), Int.toNat_natCast]
    rw [e1]
    constructor
    · intro e
      rcases digits_only e with q | q
      · rw [decide_eq_false q, Bool.false_and]
      · have : ¬ l ≠ [48] := fun z => z q
        rw [decide_eq_false this, Bool.and_false]
    · intro e
      refine digits_back _ l rfl hne h3 ?_
      by_cases q : l = [48]
      · exact .inr q
      · rw [decide_eq_true (show l ≠ [48] from q), Bool.and_true] at e
        exact .inl (of_decide_eq_false e)
theorem cut_pre (z : PySem.Str) : cutS z none (some 1) = mkS ((tl z).take 1) := by
  refine str_ext ?_
  rw [tl_mkS]
  show (((tl z).drop 0).take (min (1 : Int).toNat z.length - 0)).toArray.toList = _
  rw [List.drop_zero, len_tl]
  simp
theorem cut_post (z : PySem.Str) : cutS z (some 1) none = mkS ((tl z).drop 1) := by
  refine str_ext ?_
  rw [tl_mkS]
  show (((tl z).drop (min (1 : Int).toNat z.length)).take (z.length - min (1 : Int).toNat z.length)).toArray.toList = _
  rw [len_tl]
  cases tl z with
  | nil => rfl
  | cons a r => simp
def optD : Option Int → D
  | some i => .int i
  | none => .none
def numP (l : List Nat) : Option Int := if (okW l && !lead l) = true then some (valW l) else none
def numR (l : List Nat) : Option Int := if (okW l && (!lead l && (decide (-1000 ≤ valW l) && decide (valW l ≤ 1000)))) = true then some (valW l) else none
theorem eq_str (a b : PySem.Str) : eqD (.str a) (.str b) = .ok (.bool (decide (a = b))) := by
  have h : PyData.eqv (.str a) (.str b) = decide (a = b) := by
    simp only [PyData.eqv]
    by_cases e : a = b
    · subst e
      simp
    · simp [e]
  unfold eqD
  rw [if_pos ⟨rfl, rfl⟩, h]
theorem ne_str (a b : PySem.Str) : neD (.str a) (.str b) = .ok (.bool (!decide (a = b))) := by
  have h : PyData.eqv (.str a) (.str b) = decide (a = b) := by
    simp only [PyData.eqv]
    by_cases e : a = b
    · subst e
      simp
    · simp [e]
  unfold neD
  rw [if_pos ⟨rfl, rfl⟩, h]
theorem dash_iff (w : PySem.Str) : decide (mkS ((tl w).take 1) = "-") = neg? (tl w) := by
  unfold neg?
  rw [decide_eq_decide, str_iff, tl_mkS]
  exact Iff.rfl
def dgs : PySem.Str := "0123456789"
theorem sign_in (c : Nat) : inD (.str ⟨#[c]⟩) (.str dgs) = .ok (.bool (decide (48 ≤ c ∧ c ≤ 57))) := by
  have h : inB (.str ⟨#[c]⟩) (.str dgs) = some (decide (c ∈ dgs.cps.toList)) := rfl
  have h2 : (c ∈ dgs.cps.toList) ↔ (48 ≤ c ∧ c ≤ 57) := by
    have e : dgs.cps.toList = [48, 49, 50, 51, 52, 53, 54, 55, 56, 57] := by decide
    rw [e]
    simp only [List.mem_cons, List.not_mem_nil, or_false]
    omega
  unfold inD
  rw [h, decide_eq_decide.mpr h2]
theorem items_str (w : PySem.Str) : itemsD (.str w) = .ok ((tl w).map fun c => .str ⟨#[c]⟩) := rfl
theorem slice_pre {w : PySem.Str} (h : w.length ≤ 100000) : sliceD (.str w) none (some 1) = .ok (.str (mkS ((tl w).take 1))) := by
  rw [← cut_pre]
  exact if_pos (Nat.le_trans h (by decide))
theorem slice_post {w : PySem.Str} (h : w.length ≤ 100000) : sliceD (.str w) (some 1) none = .ok (.str (mkS ((tl w).drop 1))) := by
  rw [← cut_post]
  exact if_pos (Nat.le_trans h (by decide))
@[simp] theorem bf_strX (d : D) : Bi.f .str [d] = strF d := rfl
@[simp] theorem part_int (i : Int) : partD (.int i) = .ok (some i) := rfl
theorem len_str {w : PySem.Str} (h : w.length ≤ 100000) : lenF (.str w) = .ok (.int ((tl w).length : Nat)) := by
  rw [← len_tl]
  exact if_pos (Nat.le_trans h (by decide))
theorem figs_run (w : PySem.Str) : (if neg? (tl w) = true then mkS ((tl w).drop 1) else w) = mkS (figs (tl w)) := by
  unfold figs
  split
  · rfl
  · exact (mkS_tl w).symm
theorem number_s0 {G : Nat → List D → Out D} {w : PySem.Str} (h : w.length ≤ 100000) (o1 o2 : Option (Bool × D)) : ex G c__number_s0 [some (false, .str w), o1, o2] = .nx [some (false, .str w), some (false, .str (mkS (figs (tl w)))), o2] := by
  have e1 := slice_pre h
  have e2 := slice_post h
  have e3 := eq_str (mkS ((tl w).take 1)) "-"
  rw [dash_iff] at e3
  have e4 := figs_run w
  generalize mkS (figs (tl w)) = f at e4 ⊢
  subst e4
  generalize mkS ((tl w).take 1) = a at e1 e3
  generalize mkS ((tl w).drop 1) = b at e2 ⊢
  generalize neg? (tl w) = n at e3 ⊢
  cases n <;> simp [c__number_s0, e1, e2, e3]
theorem digs_run {G : Nat → List D → Out D} {l : List Nat} (hl : l.length ≤ 100000) (w : D) (o2 : Option (Bool × D)) : ev G c__number_l1 [some (false, w), some (false, .str (mkS l)), o2] = .ok (.list (l.map fun c => .bool (decide (48 ≤ c ∧ c ≤ 57)))) := by
  unfold c__number_l1
  rw [ev_lc]
  have hi : evI G (.pl (.varB 1)) [some (false, w), some (false, .str (mkS l)), o2] = .ok (l.map fun c => .str ⟨#[c]⟩) := by
    have e := items_str (mkS l)
    rw [tl_mkS] at e
    generalize PyData.str (mkS l) = z at e ⊢
    simp [e]
  rw [hi, ok_bind]
  have q := lcL_of (g := turnD (.nm 2) (evW G .no) (ev G (.cmp .inn (.varB 2) (.lit (.str "0123456789")))) (wipeR [some (false, w), some (false, .str (mkS l)), o2] [2])) (f := fun c : Nat => PyData.str ⟨#[c]⟩) (h := fun c => PyData.bool (decide (48 ≤ c ∧ c ≤ 57))) (xs := l) fun c hc => by
    have e := sign_in c
    unfold dgs at e
    generalize decide (48 ≤ c ∧ c ≤ 57) = b at e ⊢
    generalize mkS l = z
    simp [turnD, e]
  rw [q, noxO_ok, ok_bind]
  exact lstD_ok (Nat.le_trans (by rw [List.length_map]; exact hl) (by decide))
theorem alls_digs (l : List Nat) : allF (.list (l.map fun c => .bool (decide (48 ≤ c ∧ c ≤ 57)))) = .ok (.bool (digs l)) := by
  have h := all_bls (l.map fun c => decide (48 ≤ c ∧ c ≤ 57))
  rw [List.map_map] at h
  have e : (l.map fun c => decide (48 ≤ c ∧ c ≤ 57)).all id = digs l := by
    unfold digs
    rw [List.all_map]
    rfl
  rw [e] at h
  exact h
theorem mkS_len (l : List Nat) : (mkS l).length = l.length := by rw [len_tl, tl_mkS]
theorem figs_len (l : List Nat) : (figs l).length ≤ l.length := by
  unfold figs
  split
  · rw [List.length_drop]
    omega
  · exact Nat.le_refl _
theorem okW_short {l : List Nat} (h : okW l = true) : l.length ≤ 5 := by
  obtain ⟨⟨h1, h2⟩, _⟩ := okW_ok h
  have := len_figs l
  omega
theorem int_run {w : PySem.Str} (h : okW (tl w) = true) : intF (.str w) = .ok (.int (valW (tl w))) := by
  have e := int_text h
  rw [mkS_tl] at e
  have hz : w.length ≤ 640 := by
    rw [len_tl]
    have := okW_short h
    omega
  show (match PySem.intText? w with
    | some n => if w.length ≤ 640 then Out.ok (PyData.int n) else .stuck
    | none => .stuck) = _
  rw [e]
  exact if_pos hz
theorem str_run {i : Int} (h : -9999 ≤ i ∧ i ≤ 9999) : strF (.int i) = .ok (.str (mkS (numZ i))) := by
  have hb : i.natAbs.log2 < 1920 := by
    by_cases z : i.natAbs = 0
    · rw [z]
      decide
    · rw [Nat.log2_lt z]
      exact Nat.lt_of_lt_of_le (show i.natAbs < 2 ^ 14 by omega) (Nat.pow_le_pow_right (by decide) (by decide))
  have e : (Str.ofString (toString i)) = mkS (numZ i) := str_ext (by rw [tl_mkS]; exact tl_int i)
  rw [← e]
  exact if_pos hb
theorem numZ_iff {w : PySem.Str} (h : okW (tl w) = true) : decide (mkS (numZ (valW (tl w))) = w) = !lead (tl w) := by
  have e : (mkS (numZ (valW (tl w))) = w) ↔ lead (tl w) = false := by
    rw [str_iff, tl_mkS]
    exact back_iff h
  cases hl : lead (tl w) with
  | false => exact decide_eq_true (e.mpr hl)
  | true => exact decide_eq_false fun z => by rw [e.mp z] at hl; cases hl
theorem chain_int' (a b q : Int) : chainD (.int a) (.int b) leD leD (.ok (.int q)) = .ok (.bool (decide (a ≤ b) && decide (b ≤ q))) := by
  unfold chainD
  rw [leD_int, ok_bind, boolD_bool, ok_bind]
  by_cases h : a ≤ b
  · rw [decide_eq_true h, if_pos rfl, ok_bind, leD_int]
    rfl
  · rw [decide_eq_false h, if_neg (by decide)]
    rfl
theorem chain_int2 (a b q : Int) : chainD (.int a) (.int b) ltD ltD (.ok (.int q)) = .ok (.bool (decide (a < b) && decide (b < q))) := by
  unfold chainD
  rw [ltD_int, ok_bind, boolD_bool, ok_bind]
  by_cases h : a < b
  · rw [decide_eq_true h, if_pos rfl, ok_bind, ltD_int]
    rfl
  · rw [decide_eq_false h, if_neg (by decide)]
    rfl
theorem number_run {w : PySem.Str} (h : w.length ≤ 100000) (N : Nat) (hN : 1 ≤ N) : run P N 378 [.str w] = .ok (optD (numP (tl w))) := by
  obtain ⟨N, rfl⟩ : ∃ M, N = M + 1 := ⟨N - 1, by omega⟩
  rw [run_at lk__number rfl]
  have e0 := number_s0 (G := run P N) h none none
  have hfl : (figs (tl w)).length ≤ 100000 := Nat.le_trans (figs_len _) (by rw [← len_tl]; exact h)
  have e1 := digs_run (G := run P N) (l := figs (tl w)) hfl (.str w) none
  have e2 := alls_digs (figs (tl w))
  have e3 := len_str (w := mkS (figs (tl w))) (by rw [mkS_len]; exact hfl)
  rw [tl_mkS] at e3
  have hok : okW (tl w) = (decide (1 ≤ (figs (tl w)).length ∧ (figs (tl w)).length ≤ 4) && digs (figs (tl w))) := rfl
  have e4 := chain_int' 1 ((figs (tl w)).length : Nat) 4
  have e5 : (decide ((1 : Int) ≤ ((figs (tl w)).length : Nat)) && decide ((((figs (tl w)).length : Nat) : Int) ≤ 4)) = decide (1 ≤ (figs (tl w)).length ∧ (figs (tl w)).length ≤ 4) := by
    rw [← Bool.decide_and, decide_eq_decide]
    omega
  rw [e5] at e4
  unfold numP
  have body : exs (run P N) c__number.body (rho0 3 [.str w]) = .ret (optD (if (okW (tl w) && !lead (tl w)) = true then some (valW (tl w)) else none)) := by
    by_cases ho : okW (tl w) = true
    · have f1 := int_run ho
      have f2 := str_run (valW_le ho)
      have f3 := eq_str (mkS (numZ (valW (tl w)))) w
      rw [numZ_iff ho] at f3
      rw [ho, Bool.true_and]
      rw [hok, Bool.and_eq_true] at ho
      rw [ho.1] at e4
      rw [ho.2] at e2
      generalize (figs (tl w)).map (fun c => PyData.bool (decide (48 ≤ c ∧ c ≤ 57))) = bl at e1 e2
      generalize valW (tl w) = v at f1 f2 f3 ⊢
      generalize mkS (numZ v) = sv at f2 f3
      generalize mkS (figs (tl w)) = f at e0 e1 e3
      generalize (((figs (tl w)).length : Nat) : Int) = fl at e3 e4
      generalize lead (tl w) = ld at f3 ⊢
      cases ld <;> simp [-ev_lc, c__number, c__number_s2, c__number_s3, rho0, e0, e1, e2, e3, e4, f1, f2, f3, optD]
    · rw [Bool.not_eq_true] at ho
      rw [ho, Bool.false_and]
      rw [hok, Bool.and_eq_false_iff] at ho
      generalize (figs (tl w)).map (fun c => PyData.bool (decide (48 ≤ c ∧ c ≤ 57))) = bl at e1 e2
      generalize mkS (figs (tl w)) = f at e0 e1 e3
      generalize (((figs (tl w)).length : Nat) : Int) = fl at e3 e4
      generalize digs (figs (tl w)) = dg at e2 ho
      generalize decide (1 ≤ (figs (tl w)).length ∧ (figs (tl w)).length ≤ 4) = b at e4 ho
      cases b with
      | false => simp [-ev_lc, c__number, c__number_s2, c__number_s3, rho0, e0, e1, e2, e3, e4, optD]
      | true =>
        rcases ho with ho | ho
        · cases ho
        · subst ho
          simp [-ev_lc, c__number, c__number_s2, c__number_s3, rho0, e0, e1, e2, e3, e4, optD]
  show (exs (run P N) c__number.body (rho0 3 [.str w])).fin = _
  rw [body]
  rfl
theorem idx_first (l : List Nat) (a : Nat) (r : List Nat) (h : l = a :: r) (hl : l.length ≤ 100000) : idxD (.str (mkS l)) (.int 0) = .ok (.str ⟨#[a]⟩) := by
  have hz : (mkS l).length ≤ sizeLine := by rw [mkS_len]; exact Nat.le_trans hl (by decide)
  have e : atI (mkS l).cps.toList 0 = some a := by
    rw [show (mkS l).cps.toList = l from tl_mkS l, h]
    have e2 : ixN (a :: r).length 0 = some 0 := by
      unfold ixN
      simp
    unfold atI
    rw [e2]
    rfl
  show (if (mkS l).length ≤ sizeLine then match atI (mkS l).cps.toList 0 with
    | some c => Out.ok (PyData.str ⟨#[c]⟩)
    | none => .stuck
    else .stuck) = _
  rw [if_pos hz, e]
theorem one_zero (a : Nat) : decide ((⟨#[a]⟩ : PySem.Str) = "0") = decide (some a = some 48) := by
  rw [decide_eq_decide, str_iff]
  show [a] = [48] ↔ _
  simp
theorem ne_zero (w : PySem.Str) : (!decide (w = "0")) = decide (tl w ≠ [48]) := by
  have h : (w = "0") ↔ tl w = [48] := str_iff
  by_cases e : w = "0"
  · simp [e]
    decide
  · have : tl w ≠ [48] := fun z => e (h.mpr z)
    simp [e, this]
theorem law_s0 {G : Nat → List D → Out D} {w : PySem.Str} (h : w.length ≤ 100000) (o1 o2 : Option (Bool × D)) : ex G c__law_number_s0 [some (false, .str w), o1, o2] = .nx [some (false, .str w), some (false, .str (mkS (figs (tl w)))), o2] := number_s0 h o1 o2
theorem law_number_run {w : PySem.Str} (h : w.length ≤ 100000) (N : Nat) (hN : 1 ≤ N) : run P N 382 [.str w] = .ok (optD (numR (tl w))) := by
  obtain ⟨N, rfl⟩ : ∃ M, N = M + 1 := ⟨N - 1, by omega⟩
  rw [run_at lk__law_number rfl]
  have e0 := law_s0 (G := run P N) h none none
  have hfl : (figs (tl w)).length ≤ 100000 := Nat.le_trans (figs_len _) (by rw [← len_tl]; exact h)
  have e1 : ev (run P N) c__law_number_l1 [some (false, .str w), some (false, .str (mkS (figs (tl w)))), none] = _ := digs_run (G := run P N) (l := figs (tl w)) hfl (.str w) none
  have e2 := alls_digs (figs (tl w))
  have e3 := len_str (w := mkS (figs (tl w))) (by rw [mkS_len]; exact hfl)
  rw [tl_mkS] at e3
  have hok : okW (tl w) = (decide (1 ≤ (figs (tl w)).length ∧ (figs (tl w)).length ≤ 4) && digs (figs (tl w))) := rfl
  have e4 := chain_int2 0 ((figs (tl w)).length : Nat) 5
  have e5 : (decide ((0 : Int) < ((figs (tl w)).length : Nat)) && decide ((((figs (tl w)).length : Nat) : Int) < 5)) = decide (1 ≤ (figs (tl w)).length ∧ (figs (tl w)).length ≤ 4) := by
    rw [← Bool.decide_and, decide_eq_decide]
    omega
  rw [e5] at e4
  unfold numR
  have body : exs (run P N) c__law_number.body (rho0 3 [.str w]) = .ret (optD (if (okW (tl w) && (!lead (tl w) && (decide (-1000 ≤ valW (tl w)) && decide (valW (tl w) ≤ 1000)))) = true then some (valW (tl w)) else none)) := by
    by_cases ho : okW (tl w) = true
    · have f1 := int_run ho
      obtain ⟨⟨g1, g2⟩, g3⟩ := okW_ok ho
      obtain ⟨a, r, hf⟩ : ∃ a r, figs (tl w) = a :: r := by
        cases e : figs (tl w) with
        | nil => rw [e] at g1; simp at g1
        | cons a r => exact ⟨a, r, rfl⟩
      have f2 := idx_first (figs (tl w)) a r hf hfl
      have f3 := eq_str ⟨#[a]⟩ "0"
      rw [one_zero] at f3
      have f4 := ne_str w "0"
      rw [ne_zero] at f4
      have hld : lead (tl w) = (decide (some a = some 48) && decide (tl w ≠ [48])) := by
        unfold lead
        rw [hf]
        rfl
      have f5 := chain_int' (-1000) (valW (tl w)) 1000
      rw [ho, Bool.true_and, hld]
      rw [hok, Bool.and_eq_true] at ho
      rw [ho.1] at e4
      rw [ho.2] at e2
      generalize (decide (-1000 ≤ valW (tl w)) && decide (valW (tl w) ≤ 1000)) = rg at f5 ⊢
      generalize (figs (tl w)).map (fun c => PyData.bool (decide (48 ≤ c ∧ c ≤ 57))) = bl at e1 e2
      generalize valW (tl w) = v at f1 f5 ⊢
      generalize mkS (figs (tl w)) = f at e0 e1 e3 f2
      generalize (((figs (tl w)).length : Nat) : Int) = fl at e3 e4
      generalize decide (some a = some 48) = b1 at f3 ⊢
      generalize decide (tl w ≠ [48]) = b2 at f4 ⊢
      generalize (⟨#[a]⟩ : PySem.Str) = sa at f2 f3
      cases b1 <;> cases b2 <;> cases rg <;> simp [-ev_lc, c__law_number, c__law_number_s2, c__law_number_s3, rho0, e0, e1, e2, e3, e4, f1, f2, f3, f4, f5, optD]
    · rw [Bool.not_eq_true] at ho
      rw [ho, Bool.false_and]
      rw [hok, Bool.and_eq_false_iff] at ho
      generalize (figs (tl w)).map (fun c => PyData.bool (decide (48 ≤ c ∧ c ≤ 57))) = bl at e1 e2
      generalize mkS (figs (tl w)) = f at e0 e1 e3
      generalize (((figs (tl w)).length : Nat) : Int) = fl at e3 e4
      generalize digs (figs (tl w)) = dg at e2 ho
      generalize decide (1 ≤ (figs (tl w)).length ∧ (figs (tl w)).length ≤ 4) = b at e4 ho
      cases b with
      | false => simp [-ev_lc, c__law_number, c__law_number_s2, c__law_number_s3, rho0, e0, e1, e2, e3, e4, optD]
      | true =>
        rcases ho with ho | ho
        · cases ho
        · subst ho
          simp [-ev_lc, c__law_number, c__law_number_s2, c__law_number_s3, rho0, e0, e1, e2, e3, e4, optD]
  show (exs (run P N) c__law_number.body (rho0 3 [.str w])).fin = _
  rw [body]
  rfl
/-! ## pieces of texts -/
theorem spl_sizes (S : List Nat) : ∀ (l : List Nat) (k : Nat) (acc : List Nat), (TL.spl S k acc l).length ≤ l.length + 1 ∧ ∀ p ∈ TL.spl S k acc l, p.length ≤ acc.length + l.length
  | [], k, acc => by
    rw [TL.spl_nil]
    refine ⟨Nat.le_refl _, fun p hp => ?_⟩
    rw [List.mem_singleton.mp hp]
    exact Nat.le_add_right _ _
  | c :: r, 0, acc => by
    by_cases h : TL.pre S (c :: r) = true
    · rw [TL.spl_hit h]
      obtain ⟨h1, h2⟩ := spl_sizes S r (S.length - 1) []
      refine ⟨by rw [List.length_cons, List.length_cons]; omega, fun p hp => ?_⟩
      rcases List.mem_cons.mp hp with rfl | hp
      · exact Nat.le_add_right _ _
      · have := h2 p hp
        rw [List.length_cons]
        simp at this
        omega
    · rw [TL.spl_miss (by simpa using h)]
      obtain ⟨h1, h2⟩ := spl_sizes S r 0 (acc ++ [c])
      refine ⟨by rw [List.length_cons]; omega, fun p hp => ?_⟩
      have := h2 p hp
      rw [List.length_append, List.length_singleton] at this
      rw [List.length_cons]
      omega
  | c :: r, k + 1, acc => by
    show (TL.spl S k acc r).length ≤ _ ∧ ∀ p ∈ TL.spl S k acc r, _
    obtain ⟨h1, h2⟩ := spl_sizes S r k acc
    refine ⟨by rw [List.length_cons]; omega, fun p hp => ?_⟩
    have := h2 p hp
    rw [List.length_cons]
    omega
def comma : PySem.Str := ", "
def newl : PySem.Str := "\n"
theorem split_sizes {y : PySem.Str} (hy : tl y ≠ []) (hk : y.cps.all (· < 256) = true) (x : PySem.Str) : (Txt.split x y).length ≤ x.length + 1 ∧ ∀ p ∈ Txt.split x y, p.length ≤ x.length := by
  have e := TL.split_spl x y hy (TL.kind_ok hk)
  obtain ⟨h1, h2⟩ := spl_sizes (tl y) (tl x) 0 []
  have e' : (Txt.split x y).map tl = TL.spl (tl y) 0 [] (tl x) := e
  rw [← e'] at h1 h2
  rw [List.length_map] at h1
  refine ⟨by rw [len_tl]; exact h1, fun p hp => ?_⟩
  have := h2 (tl p) (List.mem_map.mpr ⟨p, hp, rfl⟩)
  rw [len_tl, len_tl]
  simpa using this
theorem split_comma {x : PySem.Str} (h : x.length ≤ 50000) : splitD (.str x) (.str comma) = .ok (.list ((Txt.split x comma).map .str)) := if_pos ⟨rfl, by
  have : sizeLine = 16777216 := sizeLine_eq
  omega⟩
theorem split_newl {x : PySem.Str} (h : x.length ≤ 50000) : splitD (.str x) (.str newl) = .ok (.list ((Txt.split x newl).map .str)) := if_pos ⟨rfl, by
  have : sizeLine = 16777216 := sizeLine_eq
  omega⟩
def wordsL (x : PySem.Str) : List PySem.Str := if x = "" then [] else Txt.split x comma
theorem wordsL_sizes (x : PySem.Str) : (wordsL x).length ≤ x.length + 1 ∧ ∀ p ∈ wordsL x, p.length ≤ x.length := by
  unfold wordsL
  split
  · exact ⟨Nat.zero_le _, fun p hp => by cases hp⟩
  · exact split_sizes (by decide +kernel) (by decide +kernel) x
def optT : Option (List Int) → D
  | some l => .tuple (l.map .int)
  | none => .none
def testL (x : PySem.Str) (many : Nat) : Option (List Int) := if (wordsL x).length = many ∧ ((wordsL x).all fun w => (numR (tl w)).isSome) = true then some ((wordsL x).filterMap fun w => numR (tl w)) else none
/-! ## _test -/
theorem whole_int (i lo hi : Int) (N : Nat) (hN : 1 ≤ N) : run P N 1 [.int i, .int lo, .int hi] = .ok (.bool (decide (lo ≤ i) && decide (i ≤ hi))) := by
  obtain ⟨N, rfl⟩ : ∃ M, N = M + 1 := ⟨N - 1, by omega⟩
  rw [run_at lk_is_whole rfl]
  have e := chain_int' lo i hi
  generalize (decide (lo ≤ i) && decide (i ≤ hi)) = b at e ⊢
  simp [c_is_whole, rho0, e]
def inR (i : Int) : Bool := decide (-1000 ≤ i) && decide (i ≤ 1000)
theorem bools_allX {α : Type} (xs : List α) (h : α → Bool) : allF (.list (xs.map fun x => .bool (h x))) = .ok (.bool (xs.all h)) := by
  have q := all_bls (xs.map h)
  rw [List.map_map] at q
  have e : (xs.map h).all id = xs.all h := by
    rw [List.all_map]
    rfl
  rw [e] at q
  exact q
theorem lc_ofX {α : Type} {G : Nat → List D → Out D} {ρ : Rho} {it : Ci} {e : C} {k : Nat} {xs : List α} {f h : α → D} (hit : evI G it ρ = .ok (xs.map f)) (hz : xs.length ≤ 100000)
    (hg : ∀ x ∈ xs, turnD (.nm k) (evW G .no) (ev G e) (wipeR ρ [k]) (f x) = .ok (some (h x))) : ev G (.lc (.nm k) it .no e [k]) ρ = .ok (.list (xs.map h)) := by
  rw [ev_lc, hit, ok_bind, lcL_of hg, noxO_ok, ok_bind]
  exact lstD_ok (Nat.le_trans (by rw [List.length_map]; exact hz) (by decide))
theorem inputs_run {ns : List Int} (hl : ns.length ≤ 100000) (b : Bool) (N : Nat) (hN : 2 ≤ N) : run P N 356 [if b = true then .list (ns.map .int) else .tuple (ns.map .int)] = .ok (.bool (ns.all inR)) := by
  obtain ⟨N, rfl⟩ : ∃ M, N = M + 1 := ⟨N - 1, by omega⟩
  rw [run_at lk_are_inputs rfl]
  have hi : itemsD (if b = true then .list (ns.map .int) else .tuple (ns.map .int)) = .ok (ns.map .int) := by cases b <;> rfl
  generalize (if b = true then PyData.list (ns.map .int) else .tuple (ns.map .int)) = v at hi ⊢
  have e1 : ev (run P N) c_are_inputs_l0 [some (false, v), none] = .ok (.list (ns.map fun i => .bool (inR i))) := by
    refine lc_ofX (xs := ns) (f := PyData.int) (h := fun i => .bool (inR i)) ?_ hl fun i hi => ?_
    · generalize ns.map PyData.int = l at hi ⊢
      simp [hi]
    · have e := whole_int i (-1000) 1000 N (by omega)
      have e' : run P N 1 [.int i, .int (-1000), .int 1000] = .ok (.bool (inR i)) := e
      generalize inR i = c at e' ⊢
      simp [turnD, e']
  have e2 := bools_allX ns inR
  generalize ns.map (fun i => PyData.bool (inR i)) = l at e1 e2
  simp [-ev_lc, c_are_inputs, rho0, e1, e2]
theorem fit_opt : ∀ l : List (Option Int), fitAll 59 (l.map optD) = true
  | [] => rfl
  | o :: l => by
    show (fitD 59 (optD o) && fitAll 59 (l.map optD)) = true
    rw [fit_opt l, Bool.and_true]
    cases o <;> rfl
theorem none_in (b : Bool) (l : List (Option Int)) : inD .none (if b = true then .list (l.map optD) else .tuple (l.map optD)) = .ok (.bool (l.any fun o => o.isNone)) := by
  have h1 : fitD dpt PyData.none = true ∧ fitAll dpt (l.map optD) = true := by
    refine ⟨rfl, ?_⟩
    have : ∀ l : List (Option Int), fitAll 60 (l.map optD) = true := by
      intro l
      induction l with
      | nil => rfl
      | cons o l ih =>
        show (fitD 60 (optD o) && fitAll 60 (l.map optD)) = true
        rw [ih, Bool.and_true]
        cases o <;> rfl
    exact this l
  have h2 : ((l.map optD).any fun y => PyData.eqv y .none) = l.any fun o => o.isNone := by
    rw [List.any_map]
    congr 1
    funext o
    cases o <;> simp [optD, PyData.eqv]
  have h3 : inB .none (if b = true then PyData.list (l.map optD) else .tuple (l.map optD)) = some (l.any fun o => o.isNone) := by
    cases b
    · show (if fitD dpt PyData.none = true ∧ fitAll dpt (l.map optD) = true then some ((l.map optD).any fun y => PyData.eqv y .none) else none) = _
      rw [if_pos h1, h2]
    · show (if fitD dpt PyData.none = true ∧ fitAll dpt (l.map optD) = true then some ((l.map optD).any fun y => PyData.eqv y .none) else none) = _
      rw [if_pos h1, h2]
  unfold inD
  rw [h3]
theorem some_map : ∀ {l : List (Option Int)}, (l.any fun o => o.isNone) = false → ∃ ns : List Int, l = ns.map some
  | [], _ => ⟨[], rfl⟩
  | none :: l, h => by simp at h
  | some i :: l, h => by
    obtain ⟨ns, e⟩ := some_map (l := l) (by simpa using h)
    exact ⟨i :: ns, by rw [e]; rfl⟩
theorem opt_ints (ns : List Int) : (ns.map some).map optD = ns.map PyData.int := by
  rw [List.map_map]
  rfl
theorem numR_of (l : List Nat) : numR l = match numP l with
    | some i => if inR i = true then some i else none
    | none => none := by
  unfold numR numP inR
  cases okW l <;> cases lead l <;> simp
theorem test_s0 {G : Nat → List D → Out D} {x : PySem.Str} (h : x.length ≤ 5000) (w : D) (o2 o3 o4 : Option (Bool × D)) : ex G c__test_s0 [some (false, .str x), some (false, w), o2, o3, o4] = .nx [some (false, .str x), some (false, w), some (false, .list ((wordsL x).map .str)), o3, o4] := by
  have e1 := ne_str x ""
  have e2 := split_comma (x := x) (by omega)
  have e3 : (wordsL x).map PyData.str = if decide (x = "") = true then [] else (Txt.split x comma).map PyData.str := by
    unfold wordsL
    by_cases e : x = ""
    · rw [if_pos e, decide_eq_true e]
      rfl
    · rw [if_neg e, decide_eq_false e]
      rfl
  rw [e3]
  unfold comma at e2 ⊢
  generalize (Txt.split x ", ").map PyData.str = ws at e2 ⊢
  generalize decide (x = "") = b at e1 ⊢
  cases b <;> simp [c__test_s0, e1, e2]
theorem numbers_run {N : Nat} (hN : 1 ≤ N) {x : PySem.Str} (h : x.length ≤ 5000) (w : D) (o3 o4 : Option (Bool × D)) : ev (run P N) c__test_l1 [some (false, .str x), some (false, w), some (false, .list ((wordsL x).map .str)), o3, o4] = .ok (.list (((wordsL x).map fun w => numP (tl w)).map optD)) := by
  obtain ⟨h1, h2⟩ := wordsL_sizes x
  rw [List.map_map]
  refine lc_ofX (xs := wordsL x) (f := PyData.str) (h := fun w => optD (numP (tl w))) ?_ (by omega) fun p hp => ?_
  · generalize (wordsL x).map PyData.str = l
    simp
  · have := h2 p hp
    have e := number_run (w := p) (by omega) N hN
    generalize optD (numP (tl p)) = z at e ⊢
    generalize (wordsL x).map PyData.str = l
    simp [turnD, e]
theorem test_run {x : PySem.Str} (h : x.length ≤ 5000) (many : Nat) (N : Nat) (hN : 4 ≤ N) : run P N 379 [.str x, .int (many : Nat)] = .ok (optT (testL x many)) := by
  obtain ⟨N, rfl⟩ : ∃ M, N = M + 1 := ⟨N - 1, by omega⟩
  rw [run_at lk__test rfl]
  obtain ⟨h1, _⟩ := wordsL_sizes x
  have e0 := test_s0 (G := run P N) h (.int (many : Nat)) none none none
  have e1 := numbers_run (N := N) (by omega) h (.int (many : Nat)) none none
  have e2 : lenF (.list (((wordsL x).map fun w => numP (tl w)).map optD)) = .ok (.int ((wordsL x).length : Nat)) := by
    show Out.ok (PyData.int ((((wordsL x).map fun w => numP (tl w)).map optD).length : Nat)) = _
    rw [List.length_map, List.length_map]
  have e3 : neD (.int ((wordsL x).length : Nat)) (.int (many : Nat)) = .ok (.bool (!decide ((wordsL x).length = many))) := by
    have : (!decide ((((wordsL x).length : Nat) : Int) = (many : Int))) = !decide ((wordsL x).length = many) := by
      congr 1
      rw [decide_eq_decide]
      omega
    rw [← this]
    generalize (((wordsL x).length : Nat) : Int) = a
    generalize ((many : Nat) : Int) = b
    by_cases hab : a = b <;> simp [hab]
  have e4 := none_in true ((wordsL x).map fun w => numP (tl w))
  have e4' : inD .none (.list (((wordsL x).map fun w => numP (tl w)).map optD)) = .ok (.bool (((wordsL x).map fun w => numP (tl w)).any fun o => o.isNone)) := e4
  have key : exs (run P N) c__test.body [some (false, .str x), some (false, .int (many : Nat)), none, none, none] = .ret (optT (testL x many)) := by
    by_cases hl : (wordsL x).length = many
    · rw [decide_eq_true hl] at e3
      cases hn : ((wordsL x).map fun w => numP (tl w)).any fun o => o.isNone with
      | true =>
        rw [hn] at e4'
        have ht : testL x many = none := by
          refine if_neg fun z => ?_
          obtain ⟨o, ho, hz⟩ := List.any_eq_true.mp hn
          obtain ⟨w, hw, rfl⟩ := List.mem_map.mp ho
          have := List.all_eq_true.mp z.2 w hw
          rw [numR_of] at this
          cases hp : numP (tl w) with
          | none => rw [hp] at this; cases this
          | some i => rw [hp] at hz; cases hz
        rw [ht]
        generalize ((wordsL x).map fun w => numP (tl w)).map optD = l at e1 e2 e4'
        generalize (wordsL x).map PyData.str = ws at e0 e1
        generalize (((wordsL x).length : Nat) : Int) = n at e2 e3
        generalize ((many : Nat) : Int) = m at e0 e1 e3 ⊢
        simp [-ev_lc, c__test, c__test_s2, e0, e1, e2, e3, e4', setF, dem, dem1, optT]
      | false =>
        rw [hn] at e4'
        obtain ⟨ns, hns⟩ := some_map hn
        have e5 := inputs_run (ns := ns) (by
          have := congrArg List.length hns
          rw [List.length_map, List.length_map] at this
          omega) true N (by omega)
        have e6 : tupleF (.list (((wordsL x).map fun w => numP (tl w)).map optD)) = .ok (.tuple (ns.map .int)) := by
          rw [hns, opt_ints]
          rfl
        have e5' : run P N 356 [.list (((wordsL x).map fun w => numP (tl w)).map optD)] = .ok (.bool (ns.all inR)) := by
          rw [hns, opt_ints]
          exact e5
        have ht : testL x many = if ns.all inR = true then some ns else none := by
          have hR : (wordsL x).map (fun w => numR (tl w)) = ns.map fun i => if inR i = true then some i else none := by
            have : (wordsL x).map (fun w => numR (tl w)) = ((wordsL x).map fun w => numP (tl w)).map fun o => match o with
              | some i => if inR i = true then some i else none
              | none => none := by
              rw [List.map_map]
              exact List.map_congr_left fun w _ => numR_of _
            rw [this, hns, List.map_map]
            rfl
          have a1 : ((wordsL x).all fun w => (numR (tl w)).isSome) = ns.all inR := by
            have : ((wordsL x).all fun w => (numR (tl w)).isSome) = ((wordsL x).map fun w => numR (tl w)).all fun o => o.isSome := by rw [List.all_map]; rfl
            rw [this, hR, List.all_map]
            congr 1
            funext i
            show (if inR i = true then some i else none).isSome = inR i
            cases inR i <;> rfl
          have a2 : ns.all inR = true → ((wordsL x).filterMap fun w => numR (tl w)) = ns := fun ha => by
            have : ((wordsL x).filterMap fun w => numR (tl w)) = ((wordsL x).map fun w => numR (tl w)).filterMap id := by rw [List.filterMap_map]; rfl
            rw [this, hR, List.filterMap_map]
            have hf : ∀ i ∈ ns, (id ∘ fun i => if inR i = true then some i else none) i = some i := fun i hi => if_pos (List.all_eq_true.mp ha i hi)
            clear hR this a1 e5 e5' e6 e4' hns hn
            induction ns with
            | nil => rfl
            | cons i ns ih =>
              rw [List.filterMap_cons_some (hf i (List.mem_cons_self ..))]
              simp only [List.all_cons, Bool.and_eq_true] at ha
              rw [ih ha.2 fun j hj => hf j (List.mem_cons_of_mem _ hj)]
          unfold testL
          rw [a1]
          by_cases ha : ns.all inR = true
          · rw [if_pos ⟨hl, ha⟩, if_pos ha, a2 ha]
          · rw [if_neg (fun z => ha z.2), if_neg ha]
        rw [ht]
        generalize ((wordsL x).map fun w => numP (tl w)).map optD = l at e1 e2 e4' e5' e6
        generalize (wordsL x).map PyData.str = ws at e0 e1
        generalize (((wordsL x).length : Nat) : Int) = n at e2 e3
        generalize ((many : Nat) : Int) = m at e0 e1 e3 ⊢
        cases hb : ns.all inR with
        | true =>
          rw [hb] at e5'
          simp [-ev_lc, c__test, c__test_s2, e0, e1, e2, e3, e4', e5', e6, setF, dem, dem1, optT]
        | false =>
          rw [hb] at e5'
          simp [-ev_lc, c__test, c__test_s2, e0, e1, e2, e3, e4', e5', e6, setF, dem, dem1, optT]
    · rw [decide_eq_false hl] at e3
      have ht : testL x many = none := if_neg fun z => hl z.1
      rw [ht]
      generalize ((wordsL x).map fun w => numP (tl w)).map optD = l at e1 e2
      generalize (wordsL x).map PyData.str = ws at e0 e1
      generalize (((wordsL x).length : Nat) : Int) = n at e2 e3
      generalize ((many : Nat) : Int) = m at e0 e1 e3 ⊢
      simp [-ev_lc, c__test, c__test_s2, e0, e1, e2, e3, setF, dem, dem1, optT]
  show (exs (run P N) c__test.body [some (false, .str x), some (false, .int (many : Nat)), none, none, none]).fin = _
  rw [key]
  rfl
/-! ## reading -/
def okN (fs : List (List Int)) (t : List Int) : Bool := match fs.getLast? with
  | none => true
  | some l => decide (l < t)
def rdL (many : Nat) : List PySem.Str → Nat → List (List Int) → Nat ⊕ List (List Int)
  | [], _, fs => .inr fs
  | x :: xs, k, fs => match testL x many with
    | none => .inl (k + 1)
    | some t => if k < 60 ∧ okN fs t = true then rdL many xs (k + 1) (fs ++ [t]) else .inl (k + 1)
def tsts (fs : List (List Int)) : List D := fs.map tupI
theorem optT_some (t : List Int) : optT (some t) = tupI t := rfl
theorem len_tsts (fs : List (List Int)) : lenF (.list (tsts fs)) = .ok (.int (fs.length : Nat)) := by
  rw [Mp.len_list]
  unfold tsts
  rw [List.length_map]
theorem last_tsts {fs : List (List Int)} {l : List Int} (h : fs.getLast? = some l) : idxD (.list (tsts fs)) (.int (-1)) = .ok (tupI l) := by
  obtain ⟨p, rfl⟩ : ∃ p, fs = p ++ [l] := by
    have hne : fs ≠ [] := fun z => by rw [z] at h; cases h
    refine ⟨fs.dropLast, ?_⟩
    have := List.dropLast_concat_getLast hne
    rw [List.getLast?_eq_some_getLast hne] at h
    rw [← Option.some.inj h]
    exact this.symm
  unfold tsts
  rw [List.map_append]
  exact idx_lastL _ _
/-- len(found) > 0 and found[-1] >= test, as a test -/
theorem okN_run {G : Nat → List D → Out D} {ρ : Rho} {fs : List (List Int)} {t : List Int} {i j : Nat} (h1 : getB ρ i = .ok (.list (tsts fs))) (h2 : getB ρ j = .ok (tupI t)) :
    evT G (.and (.cmp .gt (.bi .len (.cons (.varB i) .nil)) (.lit (.int 0))) (.cmp .ge (.idx (.varB i) (.neg (.lit (.int 1)))) (.varB j))) ρ = .ok (!okN fs t) := by
  have e1 := len_tsts fs
  unfold okN
  cases hl : fs.getLast? with
  | none =>
    have hz : fs = [] := List.getLast?_eq_none_iff.mp hl
    subst hz
    have e2 : decide ((0 : Int) < (([] : List (List Int)).length : Nat)) = false := by decide
    walk_at "mp"
  | some l =>
    have e2 : decide ((0 : Int) < (fs.length : Nat)) = true := by
      have hne : fs ≠ [] := fun z => by rw [z] at hl; cases hl
      have := List.length_pos_iff.mpr hne
      exact decide_eq_true (by omega)
    have e3 := last_tsts hl
    have e4 := ge_tupI l t
    walk_at "mp"
def badO (k : Nat) (fs : List (List Int)) : Option (List Int) → Bool
  | none => true
  | some t => !(decide (k < 60) && okN fs t)
theorem bad_run {G : Nat → List D → Out D} {k : Nat} {fs : List (List Int)} {o : Option (List Int)} {a b c d : Option (Bool × D)} :
    evT G (.or (.cmp .isN (.varB 6) (.lit .none)) (.or (.cmp .ge (.varB 4) (.lit (.int 60))) (.and (.cmp .gt (.bi .len (.cons (.varB 3) .nil)) (.lit (.int 0))) (.cmp .ge (.idx (.varB 3) (.neg (.lit (.int 1)))) (.varB 6)))))
      [a, b, c, some (true, .list (tsts fs)), some (false, .int (k : Nat)), d, some (false, optT o)] = .ok (badO k fs o) := by
  cases o with
  | none => rfl
  | some t =>
    have e := okN_run (G := G) (ρ := [a, b, c, some (true, .list (tsts fs)), some (false, .int (k : Nat)), d, some (false, tupI t)]) (fs := fs) (t := t) (i := 3) (j := 6) rfl rfl
    have e0 : isND (tupI t) .none = .ok (.bool false) := rfl
    have e1 : decide ((60 : Int) ≤ (k : Nat)) = !decide (k < 60) := by
      by_cases h : k < 60
      · rw [decide_eq_true h, decide_eq_false (by omega)]
        rfl
      · rw [decide_eq_false h, decide_eq_true (by omega)]
        rfl
    show evT G _ [a, b, c, some (true, .list (tsts fs)), some (false, .int (k : Nat)), d, some (false, tupI t)] = .ok (!(decide (k < 60) && okN fs t))
    rw [evT_or, evT_or, e]
    generalize okN fs t = x
    generalize decide (k < 60) = y at e1 ⊢
    walk_at "mp"
    cases x <;> cases y <;> rfl
theorem badO_some {k : Nat} {fs : List (List Int)} {o : Option (List Int)} (h : badO k fs o = false) : ∃ t, o = some t ∧ k < 60 ∧ okN fs t = true := by
  cases o with
  | none => cases h
  | some t =>
    have h : (!(decide (k < 60) && okN fs t)) = false := h
    rw [Bool.not_eq_false', Bool.and_eq_true, decide_eq_true_eq] at h
    exact ⟨t, rfl, h⟩
theorem rdL_bad {many k : Nat} {x : PySem.Str} {xs : List PySem.Str} {fs : List (List Int)} (h : badO k fs (testL x many) = true) : rdL many (x :: xs) k fs = .inl (k + 1) := by
  unfold rdL
  cases ht : testL x many with
  | none => rfl
  | some t =>
    rw [ht] at h
    have h : (!(decide (k < 60) && okN fs t)) = true := h
    refine if_neg fun z => ?_
    rw [decide_eq_true z.1, z.2] at h
    cases h
theorem rdL_good {many k : Nat} {x : PySem.Str} {xs : List PySem.Str} {fs : List (List Int)} {t : List Int} (ht : testL x many = some t) (h : k < 60 ∧ okN fs t = true) : rdL many (x :: xs) k fs = rdL many xs (k + 1) (fs ++ [t]) := by
  conv => lhs; unfold rdL
  rw [ht]
  exact if_pos h
theorem okX {k : Nat} (h : k ≤ 100000) : okXd (.int ((k : Int) + 1)) = true := by
  show decide (((k : Int) + 1).natAbs.log2 < 1920) = true
  refine decide_eq_true ?_
  by_cases z : ((k : Int) + 1).natAbs = 0
  · omega
  · rw [Nat.log2_lt z]
    exact Nat.lt_of_lt_of_le (show ((k : Int) + 1).natAbs < 2 ^ 20 by omega) (Nat.pow_le_pow_right (by decide) (by decide))
/-! ## tests_of -/
theorem of_turn {N : Nat} (hN : 4 ≤ N) {x : PySem.Str} (hx : x.length ≤ 5000) {many k : Nat} (hk : k ≤ 100000) (fs : List (List Int)) (hl : fs.length ≤ k) (a c o6 : Option (Bool × D)) :
    exs (run P N) c_tests_of_b3 [a, some (false, .int (many : Nat)), c, some (true, .list (tsts fs)), some (false, .int (k : Nat)), some (false, .str x), o6] =
      if badO k fs (testL x many) = true then .exc "BadLine" [("line", .int ((k : Int) + 1))] [a, some (false, .int (many : Nat)), c, some (true, .list (tsts fs)), some (false, .int (k : Nat)), some (false, .str x), some (false, optT (testL x many))]
      else .nx [a, some (false, .int (many : Nat)), c, some (true, .list (tsts fs ++ [optT (testL x many)])), some (false, .int (k : Nat)), some (false, .str x), some (false, optT (testL x many))] := by
  have e1 := test_run hx many N hN
  have e2 := bad_run (G := run P N) (k := k) (fs := fs) (o := testL x many) (a := a) (b := some (false, .int (many : Nat))) (c := c) (d := some (false, .str x))
  have e3 := okX hk
  have hs : ex (run P N) c_tests_of_s2 [a, some (false, .int (many : Nat)), c, some (true, .list (tsts fs)), some (false, .int (k : Nat)), some (false, .str x), some (false, optT (testL x many))] =
      if badO k fs (testL x many) = true then .exc "BadLine" [("line", .int ((k : Int) + 1))] [a, some (false, .int (many : Nat)), c, some (true, .list (tsts fs)), some (false, .int (k : Nat)), some (false, .str x), some (false, optT (testL x many))]
      else .nx [a, some (false, .int (many : Nat)), c, some (true, .list (tsts fs)), some (false, .int (k : Nat)), some (false, .str x), some (false, optT (testL x many))] := by
    unfold c_tests_of_s2
    rw [ex_ite, e2]
    generalize badO k fs (testL x many) = b
    cases b <;> walk_at "mp"
  cases hb : badO k fs (testL x many) with
  | true =>
    rw [hb] at hs
    unfold c_tests_of_b3
    walk_at "mp"
  | false =>
    rw [hb] at hs
    obtain ⟨t, ht, h60, _⟩ := badO_some hb
    have hz : (tsts fs).length < sizeLine := by
      unfold tsts
      rw [List.length_map]
      exact Nat.lt_of_lt_of_le (Nat.lt_of_le_of_lt hl h60) (by decide)
    have e4 := app_i (ρ := [a, some (false, .int (many : Nat)), c, some (true, .list (tsts fs)), some (false, .int (k : Nat)), some (false, .str x), some (false, optT (testL x many))]) (i := 3) (optT (testL x many)) rfl hz
    clear ht
    unfold c_tests_of_b3
    walk_at "mp"
theorem tsts_app (fs : List (List Int)) (t : List Int) : tsts fs ++ [optT (some t)] = tsts (fs ++ [t]) := by
  unfold tsts
  rw [List.map_append]
  rfl
def enK (k : Nat) (xs : List PySem.Str) : List D := (xs.zipIdx k).map fun q => .tuple [.int (q.2 : Nat), .str q.1]
theorem of_loop {N : Nat} (hN : 4 ≤ N) (many : Nat) (a c : Option (Bool × D)) : ∀ (xs : List PySem.Str) (k : Nat) (fs : List (List Int)) (o4 o5 o6 : Option (Bool × D)), (∀ x ∈ xs, x.length ≤ 5000) → k + xs.length ≤ 100000 → fs.length ≤ k →
    match rdL many xs k fs with
    | .inl j => ∃ ρ, forL (.tup [.nm 4, .nm 5]) (exs (run P N) c_tests_of_b3) (enK k xs) [a, some (false, .int (many : Nat)), c, some (true, .list (tsts fs)), o4, o5, o6] = .exc "BadLine" [("line", .int (j : Nat))] ρ
    | .inr gs => ∃ p4 p5 p6, forL (.tup [.nm 4, .nm 5]) (exs (run P N) c_tests_of_b3) (enK k xs) [a, some (false, .int (many : Nat)), c, some (true, .list (tsts fs)), o4, o5, o6] = .nx [a, some (false, .int (many : Nat)), c, some (true, .list (tsts gs)), p4, p5, p6]
  | [], k, fs, o4, o5, o6, _, _, _ => ⟨o4, o5, o6, rfl⟩
  | x :: xs, k, fs, o4, o5, o6, hx, hk, hl => by
    rw [List.length_cons] at hk
    have et := of_turn hN (hx x (List.mem_cons_self ..)) (many := many) (k := k) (by omega) fs hl a c o6
    have el : enK k (x :: xs) = .tuple [.int (k : Nat), .str x] :: enK (k + 1) xs := rfl
    rw [el, forL_c (ρ1 := [a, some (false, .int (many : Nat)), c, some (true, .list (tsts fs)), some (false, .int (k : Nat)), some (false, .str x), o6]) (by simp), et]
    cases hb : badO k fs (testL x many) with
    | true =>
      rw [rdL_bad hb]
      refine ⟨[a, some (false, .int (many : Nat)), c, some (true, .list (tsts fs)), some (false, .int (k : Nat)), some (false, .str x), some (false, optT (testL x many))], ?_⟩
      rw [if_pos rfl]
      rfl
    | false =>
      obtain ⟨t, ht, h60⟩ := badO_some hb
      rw [rdL_good ht h60, if_neg (by decide), ht, tsts_app]
      exact of_loop hN many a c xs (k + 1) (fs ++ [t]) _ _ _ (fun y hy => hx y (List.mem_cons_of_mem _ hy)) (by omega) (by rw [List.length_append, List.length_singleton]; omega)
/-! ## tests_of, whole -/
def endL (L : List PySem.Str) (z : PySem.Str) : Nat ⊕ List (List Int) → Nat ⊕ List (List Int)
  | .inl j => .inl j
  | .inr gs => if z = "" then .inr gs else .inl (L.length + 1)
/-- the reading of a text of lines L and a last one z -/
def readL (many : Nat) (L : List PySem.Str) (z : PySem.Str) : Nat ⊕ List (List Int) := endL L z (rdL many L 0 [])
def outO : Nat ⊕ List (List Int) → Out D
  | .inl j => .exc "BadLine" [("line", .int (j : Nat))]
  | .inr gs => .ok (.tuple (tsts gs))
def encO : Nat ⊕ List (List Int) → D
  | .inl j => .tuple [.str "line", .int (j : Nat)]
  | .inr gs => .tuple [.str "tests", .tuple (tsts gs)]
theorem enum_L (L : List PySem.Str) : enumD2 [.list (L.map .str)] = .ok (enK 0 L) := by
  have : ∀ (L : List PySem.Str) (k : Nat), ((L.map PyData.str).zipIdx k).map (fun p => PyData.tuple [.int (p.2 : Nat), p.1]) = enK k L := by
    intro L
    induction L with
    | nil => exact fun k => rfl
    | cons x L ih =>
      intro k
      rw [List.map_cons, List.zipIdx_cons, List.map_cons, ih (k + 1)]
      rfl
  have h := this L 0
  show Out.ok (enumI (L.map PyData.str)) = _
  rw [← h]
  rfl
theorem slice_init (L : List PySem.Str) (z : PySem.Str) : sliceD (.list ((L ++ [z]).map .str)) none (some (-1)) = .ok (.list (L.map .str)) := by
  rw [List.map_append]
  show Out.ok (PyData.list (Mp.cutD (L.map PyData.str ++ [PyData.str z]) none (some (-1)))) = _
  rw [cut_last]
theorem idx_fin (L : List PySem.Str) (z : PySem.Str) : idxD (.list ((L ++ [z]).map .str)) (.int (-1)) = .ok (.str z) := by
  rw [List.map_append]
  exact idx_lastL _ _
theorem len_L (L : List PySem.Str) (z : PySem.Str) : lenF (.list ((L ++ [z]).map .str)) = .ok (.int ((L.length : Int) + 1)) := by
  rw [Mp.len_list, List.length_map, List.length_append]
  rfl
theorem many_ok {many : Nat} (h : many ≤ 6) : (decide ((0 : Int) ≤ (many : Nat)) && decide (((many : Nat) : Int) ≤ 6)) = true := by
  rw [decide_eq_true (by omega), decide_eq_true (by omega)]
  rfl
theorem tests_of_run {N : Nat} (hN : 5 ≤ N) {x : PySem.Str} (hx : x.length ≤ 5000) {many : Nat} (hm : many ≤ 6) {L : List PySem.Str} {z : PySem.Str} (hs : Txt.split x newl = L ++ [z]) :
    run P N 380 [.str x, .int (many : Nat)] = outO (readL many L z) := by
  refine run_ok (k := 4) lk_tests_of rfl hN fun M hM => ?_
  have e1 := whole_int (many : Nat) 0 6 M (by omega)
  rw [many_ok hm] at e1
  have e2 := split_newl (x := x) (by omega)
  rw [hs] at e2
  have e3 := slice_init L z
  have e4 := enum_L L
  have hsz := split_sizes (y := newl) (by decide +kernel) (by decide +kernel) x
  rw [hs] at hsz
  have hll : L.length + 1 ≤ x.length + 1 := by
    have := hsz.1
    rw [List.length_append, List.length_singleton] at this
    exact this
  have e5 := of_loop hM many (some (false, .str x)) (some (true, .list ((L ++ [z]).map .str))) L 0 [] none none none (fun y hy => Nat.le_trans (hsz.2 y (List.mem_append_left _ hy)) hx) (by omega) (Nat.le_refl _)
  have s0 : ex (run P M) c_tests_of_s0 [some (false, .str x), some (false, .int (many : Nat)), none, none, none, none, none] = .nx [some (false, .str x), some (false, .int (many : Nat)), none, none, none, none, none] := by
    unfold c_tests_of_s0
    walk_at "mp"
  have s1 : ex (run P M) c_tests_of_s1 [some (false, .str x), some (false, .int (many : Nat)), none, none, none, none, none] = .nx [some (false, .str x), some (false, .int (many : Nat)), none, none, none, none, none] := rfl
  have s2 : ev (run P M) (.split (.varB 0) (.lit (.str "\n"))) [some (false, .str x), some (false, .int (many : Nat)), none, none, none, none, none] = .ok (.list ((L ++ [z]).map .str)) := ev_split_ok rfl rfl e2
  have s4 : ∀ o, ex (run P M) c_tests_of_s4 [some (false, .str x), some (false, .int (many : Nat)), some (true, .list ((L ++ [z]).map .str)), some (true, .list []), none, none, o] =
      forL (.tup [.nm 4, .nm 5]) (exs (run P M) c_tests_of_b3) (enK 0 L) [some (false, .str x), some (false, .int (many : Nat)), some (true, .list ((L ++ [z]).map .str)), some (true, .list []), none, none, o] := fun o => by
    unfold c_tests_of_s4
    rw [ex_for]
    have : evI (run P M) (.enum (.cons (.slice (.varB 2) .no (.yes (.neg (.lit (.int 1))))) .nil)) [some (false, .str x), some (false, .int (many : Nat)), some (true, .list ((L ++ [z]).map .str)), some (true, .list []), none, none, o] = .ok (enK 0 L) := by
      walk_at "mp"
    rw [this]
    rfl
  show (exs (run P M) c_tests_of.body [some (false, .str x), some (false, .int (many : Nat)), none, none, none, none, none]).fin = _
  unfold c_tests_of
  simp only [exs_cons, s0, nx_seq, s1, ex_setF, s2, ok_st, List.set_cons_succ, List.set_cons_zero, ev_lst, evs_nil, Mp.ok_bind, Mp.lstD_nil, s4]
  unfold readL
  rw [show tsts [] = [] from rfl] at e5
  cases hr : rdL many L 0 [] with
  | inl j =>
    rw [hr] at e5
    obtain ⟨ρ, e5⟩ := e5
    rw [e5]
    rfl
  | inr gs =>
    rw [hr] at e5
    obtain ⟨p4, p5, p6, e5⟩ := e5
    rw [e5, nx_seq, exs_cons]
    have e6 := idx_fin L z
    have e7 := ne_str z ""
    have e8 := len_L L z
    have e9 : okXd (.int ((L.length : Int) + 1)) = true := okX (by omega)
    have s5 : ex (run P M) c_tests_of_s5 [some (false, .str x), some (false, .int (many : Nat)), some (true, .list ((L ++ [z]).map .str)), some (true, .list (tsts gs)), p4, p5, p6] =
        if z = "" then .nx [some (false, .str x), some (false, .int (many : Nat)), some (true, .list ((L ++ [z]).map .str)), some (true, .list (tsts gs)), p4, p5, p6]
        else .exc "BadLine" [("line", .int ((L.length : Int) + 1))] [some (false, .str x), some (false, .int (many : Nat)), some (true, .list ((L ++ [z]).map .str)), some (true, .list (tsts gs)), p4, p5, p6] := by
      unfold c_tests_of_s5
      by_cases hz : z = ""
      · rw [decide_eq_true hz] at e7
        rw [if_pos hz]
        clear hz
        walk_at "mp"
      · rw [decide_eq_false hz] at e7
        rw [if_neg hz]
        clear hz
        walk_at "mp"
    rw [s5]
    unfold endL
    by_cases hz : z = ""
    · rw [if_pos hz]
      show _ = outO (if z = "" then _ else _)
      rw [if_pos hz]
      clear hz e5 hr
      unfold outO
      walk_at "mp"
    · rw [if_neg hz]
      show _ = outO (if z = "" then _ else _)
      rw [if_neg hz]
      rfl
/-! ## the law's reading -/
theorem words_run {G : Nat → List D → Out D} {a b d : Option (Bool × D)} {L : List D} {k : Nat} {x : PySem.Str} (hk : L[k]? = some (.str x)) (hx : x.length ≤ 5000) (o5 o6 o7 : Option (Bool × D)) :
    ex G c__law_read_s0 [a, b, some (true, .list L), d, some (false, .int (k : Nat)), o5, o6, o7] = .nx [a, b, some (true, .list L), d, some (false, .int (k : Nat)), some (false, .list ((wordsL x).map .str)), o6, o7] := by
  have e1 : idxD (.list L) (.int (k : Nat)) = .ok (.str x) := idx_list hk
  have e2 := ne_str x ""
  have e3 := split_comma (x := x) (by omega)
  have e4 : ev G (.split (.idx (.varB 2) (.varB 4)) (.lit (.str ", "))) [a, b, some (true, .list L), d, some (false, .int (k : Nat)), o5, o6, o7] = .ok (.list ((Txt.split x comma).map .str)) := by
    refine ev_split_ok (a := x) (b := comma) ?_ rfl e3
    walk_at "mp"
  unfold c__law_read_s0 wordsL
  by_cases hz : x = ""
  · rw [decide_eq_true hz] at e2
    rw [if_pos hz]
    clear hz e4
    walk_at "mp"
    rfl
  · rw [decide_eq_false hz] at e2
    rw [if_neg hz]
    clear hz
    walk_at "mp"
def rowR (x : PySem.Str) : D := .tuple (((wordsL x).map fun w => numR (tl w)).map optD)
theorem row_run {N : Nat} (hN : 1 ≤ N) {x : PySem.Str} (hx : x.length ≤ 5000) (a b c d e : Option (Bool × D)) (o6 o7 : Option (Bool × D)) :
    ev (run P N) (.bi .tuple (.cons c__law_read_l1 .nil)) [a, b, c, d, e, some (false, .list ((wordsL x).map .str)), o6, o7] = .ok (rowR x) := by
  obtain ⟨h1, h2⟩ := wordsL_sizes x
  have q : ev (run P N) c__law_read_l1 [a, b, c, d, e, some (false, .list ((wordsL x).map .str)), o6, o7] = .ok (.list ((wordsL x).map fun w => optD (numR (tl w)))) := by
    refine lc_of (xs := wordsL x) (f := PyData.str) (h := fun w => optD (numR (tl w))) ?_ (by omega) fun p hp => ?_
    · walk_at "mp"
    · have := h2 p hp
      have e := law_number_run (w := p) (by omega) N hN
      refine turn_nm rfl ?_
      walk_at "mp"
  unfold rowR
  rw [List.map_map]
  show (evs (run P N) _ _).bind (Bi.f .tuple) = _
  rw [evs_cons, q]
  rfl
theorem row_eq (x : PySem.Str) (many : Nat) : testL x many = if (wordsL x).length = many ∧ (((wordsL x).map fun w => numR (tl w)).any fun o => o.isNone) = false then some (((wordsL x).map fun w => numR (tl w)).filterMap id) else none := by
  unfold testL
  have h1 : ((wordsL x).all fun w => (numR (tl w)).isSome) = !(((wordsL x).map fun w => numR (tl w)).any fun o => o.isNone) := by
    rw [List.any_map]
    induction wordsL x with
    | nil => rfl
    | cons w l ih =>
      rw [List.all_cons, List.any_cons, ih]
      show _ = !((numR (tl w)).isNone || _)
      cases numR (tl w) <;> simp
  have h2 : ((wordsL x).filterMap fun w => numR (tl w)) = ((wordsL x).map fun w => numR (tl w)).filterMap id := by rw [List.filterMap_map]; rfl
  rw [h1, h2]
  generalize (((wordsL x).map fun w => numR (tl w)).any fun o => o.isNone) = b
  cases b <;> simp
/-- the law's test of a line, as one Boolean -/
theorem law_bad {G : Nat → List D → Out D} {many k : Nat} {fs : List (List Int)} {x : PySem.Str} {a c d o7 : Option (Bool × D)} :
    evT G (.or (.cmp .ne (.bi .len (.cons (.varB 6) .nil)) (.varB 1)) (.or (.cmp .inn (.lit .none) (.varB 6)) (.or (.and (.cmp .gt (.bi .len (.cons (.varB 3) .nil)) (.lit (.int 0))) (.cmp .ge (.idx (.varB 3) (.neg (.lit (.int 1)))) (.varB 6))) (.cmp .ge (.varB 4) (.lit (.int 60))))))
      [a, some (false, .int (many : Nat)), c, some (true, .list (tsts fs)), some (false, .int (k : Nat)), d, some (false, rowR x), o7] = .ok (badO k fs (testL x many))
    ∧ ∀ t, testL x many = some t → rowR x = tupI t := by
  have hr := row_eq x many
  have e1 : lenF (rowR x) = .ok (.int ((wordsL x).length : Nat)) := by
    unfold rowR
    rw [Mp.len_tup, List.length_map, List.length_map]
  have e2 : neD (.int ((wordsL x).length : Nat)) (.int (many : Nat)) = .ok (.bool (!decide ((wordsL x).length = many))) := by
    have : (!decide ((((wordsL x).length : Nat) : Int) = (many : Int))) = !decide ((wordsL x).length = many) := by
      congr 1
      rw [decide_eq_decide]
      omega
    rw [← this, Mp.neD_int]
    rfl
  have e3 : inD .none (rowR x) = .ok (.bool (((wordsL x).map fun w => numR (tl w)).any fun o => o.isNone)) := none_in false ((wordsL x).map fun w => numR (tl w))
  by_cases hl : (wordsL x).length = many
  · rw [decide_eq_true hl] at e2
    cases hn : ((wordsL x).map fun w => numR (tl w)).any fun o => o.isNone with
    | true =>
      rw [hn] at e3 hr
      rw [if_neg (fun z => by cases z.2)] at hr
      rw [hr]
      clear hl hr hn
      refine ⟨?_, fun t h => by cases h⟩
      show _ = Out.ok true
      walk_at "mp"
    | false =>
      obtain ⟨ns, hns⟩ := some_map hn
      rw [hn, if_pos ⟨hl, rfl⟩, hns, List.filterMap_map] at hr
      have h0 : List.filterMap (id ∘ some) ns = ns := by
        rw [show (id ∘ some : Int → Option Int) = some from rfl]
        exact List.filterMap_some
      rw [h0] at hr
      have h1 : rowR x = tupI ns := by
        unfold rowR
        rw [hns, opt_ints]
        rfl
      rw [hr, h1]
      refine ⟨?_, fun t h => by rw [Option.some.inj h]⟩
      rw [hn, h1] at e3
      rw [h1] at e1
      have e := okN_run (G := G) (ρ := [a, some (false, .int (many : Nat)), c, some (true, .list (tsts fs)), some (false, .int (k : Nat)), d, some (false, tupI ns), o7]) (fs := fs) (t := ns) (i := 3) (j := 6) rfl rfl
      have e5 : decide ((60 : Int) ≤ (k : Nat)) = !decide (k < 60) := by
        by_cases h : k < 60
        · rw [decide_eq_true h, decide_eq_false (by omega)]
          rfl
        · rw [decide_eq_false h, decide_eq_true (by omega)]
          rfl
      show _ = Out.ok (!(decide (k < 60) && okN fs ns))
      rw [evT_or, evT_or, evT_or, e]
      clear hl hr hn h0 h1 hns e
      generalize okN fs ns = u
      generalize decide (k < 60) = y at e5 ⊢
      walk_at "mp"
      cases u <;> cases y <;> rfl
  · rw [decide_eq_false hl] at e2
    rw [if_neg (fun z => hl z.1)] at hr
    rw [hr]
    clear hl hr e3
    refine ⟨?_, fun t h => by cases h⟩
    show _ = Out.ok true
    walk_at "mp"
theorem read_turn {N : Nat} (hN : 1 ≤ N) {L : List D} {x : PySem.Str} {many k : Nat} (hk : L[k]? = some (.str x)) (hx : x.length ≤ 5000) (fs : List (List Int)) (hl : fs.length ≤ k) (a o5 o6 o7 : Option (Bool × D)) :
    ∃ p5 p6, exs (run P N) c__law_read_b4 [a, some (false, .int (many : Nat)), some (true, .list L), some (true, .list (tsts fs)), some (false, .int (k : Nat)), o5, o6, o7] =
      if badO k fs (testL x many) = true then .ret (.tuple [.str "line", .int ((k : Int) + 1)])
      else .nx [a, some (false, .int (many : Nat)), some (true, .list L), some (true, .list (tsts fs ++ [optT (testL x many)])), some (false, .int (k : Nat)), p5, p6, o7] := by
  have e1 := words_run (G := run P N) (a := a) (b := some (false, .int (many : Nat))) (d := some (true, .list (tsts fs))) hk hx o5 o6 o7
  have e2 := row_run (N := N) hN hx a (some (false, .int (many : Nat))) (some (true, .list L)) (some (true, .list (tsts fs))) (some (false, .int (k : Nat))) o6 o7
  obtain ⟨e3, e3'⟩ := law_bad (G := run P N) (many := many) (k := k) (fs := fs) (x := x) (a := a) (c := some (true, .list L)) (d := some (false, .list ((wordsL x).map .str))) (o7 := o7)
  refine ⟨some (false, .list ((wordsL x).map .str)), some (false, rowR x), ?_⟩
  unfold c__law_read_b4
  rw [exs_cons, e1, nx_seq, exs_cons, ex_set, e2, ok_st]
  simp only [List.set_cons_succ, List.set_cons_zero, nx_seq, exs_cons]
  unfold c__law_read_s3
  rw [ex_ite, e3]
  clear e1 e2 e3
  cases hb : badO k fs (testL x many) with
  | true =>
    unfold c__law_read_s2
    walk_at "mp"
  | false =>
    obtain ⟨t, ht, h60, _⟩ := badO_some hb
    have hz : (tsts fs).length < sizeLine := by
      unfold tsts
      rw [List.length_map]
      exact Nat.lt_of_lt_of_le (Nat.lt_of_le_of_lt hl h60) (by decide)
    rw [ht, optT_some, e3' t ht]
    have e4 := app_i (ρ := [a, some (false, .int (many : Nat)), some (true, .list L), some (true, .list (tsts fs)), some (false, .int (k : Nat)), some (false, .list ((wordsL x).map .str)), some (false, tupI t), o7]) (i := 3) (tupI t) rfl hz
    clear ht e3' hk hb
    walk_at "mp"
theorem read_loop {N : Nat} (hN : 1 ≤ N) (many : Nat) (a : Option (Bool × D)) (W : List D) : ∀ (xs : List PySem.Str) (k : Nat) (fs : List (List Int)) (o4 o5 o6 o7 : Option (Bool × D)), (∀ x ∈ xs, x.length ≤ 5000) → (∀ i, ∀ x, xs[i]? = some x → W[k + i]? = some (.str x)) → fs.length ≤ k →
    match rdL many xs k fs with
    | .inl j => forL (.nm 4) (exs (run P N) c__law_read_b4) ((List.range' k xs.length).map fun i => .int (i : Nat)) [a, some (false, .int (many : Nat)), some (true, .list W), some (true, .list (tsts fs)), o4, o5, o6, o7] = .ret (.tuple [.str "line", .int (j : Nat)])
    | .inr gs => ∃ p4 p5 p6, forL (.nm 4) (exs (run P N) c__law_read_b4) ((List.range' k xs.length).map fun i => .int (i : Nat)) [a, some (false, .int (many : Nat)), some (true, .list W), some (true, .list (tsts fs)), o4, o5, o6, o7] = .nx [a, some (false, .int (many : Nat)), some (true, .list W), some (true, .list (tsts gs)), p4, p5, p6, o7]
  | [], k, fs, o4, o5, o6, o7, _, _, _ => ⟨o4, o5, o6, rfl⟩
  | x :: xs, k, fs, o4, o5, o6, o7, hx, hw, hl => by
    obtain ⟨p5, p6, et⟩ := read_turn (N := N) hN (L := W) (many := many) (k := k) (x := x) (by simpa using hw 0 x rfl) (hx x (List.mem_cons_self ..)) fs hl a o5 o6 o7
    rw [List.length_cons, List.range'_succ, List.map_cons, forL_c (ρ1 := [a, some (false, .int (many : Nat)), some (true, .list W), some (true, .list (tsts fs)), some (false, .int (k : Nat)), o5, o6, o7]) (by simp), et]
    cases hb : badO k fs (testL x many) with
    | true =>
      rw [rdL_bad hb, if_pos rfl]
      rfl
    | false =>
      obtain ⟨t, ht, h60⟩ := badO_some hb
      rw [rdL_good ht h60, if_neg (by decide), ht, tsts_app]
      exact read_loop hN many a W xs (k + 1) (fs ++ [t]) _ _ _ _ (fun y hy => hx y (List.mem_cons_of_mem _ hy)) (fun i y hy => by
        have := hw (i + 1) y (by simpa using hy)
        rw [show k + 1 + i = k + (i + 1) by omega]
        exact this) (by rw [List.length_append, List.length_singleton]; omega)
theorem law_read_run {N : Nat} (hN : 3 ≤ N) {x : PySem.Str} (hx : x.length ≤ 5000) {many : Nat} {L : List PySem.Str} {z : PySem.Str} (hs : Txt.split x newl = L ++ [z]) :
    run P N 383 [.str x, .int (many : Nat)] = .ok (encO (readL many L z)) := by
  refine run_ok (k := 2) lk__law_read rfl hN fun M hM => ?_
  have e2 := split_newl (x := x) (by omega)
  rw [hs] at e2
  have hsz := split_sizes (y := newl) (by decide +kernel) (by decide +kernel) x
  rw [hs] at hsz
  have hll : L.length + 1 ≤ x.length + 1 := by
    have := hsz.1
    rw [List.length_append, List.length_singleton] at this
    exact this
  have e5 := read_loop (N := M) (by omega) many (some (false, .str x)) ((L ++ [z]).map .str) L 0 [] none none none none (fun y hy => Nat.le_trans (hsz.2 y (List.mem_append_left _ hy)) hx) (fun i y hy => by
    rw [Nat.zero_add, List.map_append]
    have h : (L.map PyData.str)[i]? = some (.str y) := by rw [List.getElem?_map, hy]; rfl
    rw [List.getElem?_append_left (by
      obtain ⟨h', _⟩ := List.getElem?_eq_some_iff.mp h
      exact h')]
    exact h) (Nat.le_refl _)
  have s2 : ev (run P M) (.split (.varB 0) (.lit (.str "\n"))) [some (false, .str x), some (false, .int (many : Nat)), none, none, none, none, none, none] = .ok (.list ((L ++ [z]).map .str)) := ev_split_ok rfl rfl e2
  have s5 : ex (run P M) c__law_read_s5 [some (false, .str x), some (false, .int (many : Nat)), some (true, .list ((L ++ [z]).map .str)), some (true, .list []), none, none, none, none] =
      forL (.nm 4) (exs (run P M) c__law_read_b4) ((List.range' 0 L.length).map fun i => .int (i : Nat)) [some (false, .str x), some (false, .int (many : Nat)), some (true, .list ((L ++ [z]).map .str)), some (true, .list []), none, none, none, none] := by
    unfold c__law_read_s5
    rw [ex_for]
    have h1 := len_L L z
    have h2 : (L.length : Int) + 1 - 1 = (L.length : Nat) := by omega
    have h3 := range_nat (m := L.length) (by omega)
    rw [List.range_eq_range'] at h3
    have : evI (run P M) (.rg1 (.cons (.bin .sub (.bi .len (.cons (.varB 2) .nil)) (.lit (.int 1))) .nil)) [some (false, .str x), some (false, .int (many : Nat)), some (true, .list ((L ++ [z]).map .str)), some (true, .list []), none, none, none, none] = .ok ((List.range' 0 L.length).map fun i => .int (i : Nat)) := by
      walk_at "mp"
    rw [this]
    rfl
  show (exs (run P M) c__law_read.body [some (false, .str x), some (false, .int (many : Nat)), none, none, none, none, none, none]).fin = _
  unfold c__law_read
  simp only [exs_cons, nx_seq, ex_setF, s2, ok_st, List.set_cons_succ, List.set_cons_zero, ev_lst, evs_nil, Mp.ok_bind, Mp.lstD_nil, s5]
  unfold readL
  rw [show tsts [] = [] from rfl] at e5
  cases hr : rdL many L 0 [] with
  | inl j =>
    rw [hr] at e5
    have e5 : forL (.nm 4) _ _ _ = _ := e5
    rw [e5]
    rfl
  | inr gs =>
    rw [hr] at e5
    obtain ⟨p4, p5, p6, e5⟩ := e5
    rw [e5, nx_seq]
    have e6 := idx_fin L z
    have e7 := ne_str z ""
    have e8 := len_L L z
    unfold endL
    by_cases hz : z = ""
    · rw [decide_eq_true hz] at e7
      show _ = Out.ok (encO (if z = "" then _ else _))
      rw [if_pos hz]
      clear hz e5 hr hs hsz s5 s2
      unfold encO c__law_read_s6
      walk_at "mp"
    · rw [decide_eq_false hz] at e7
      show _ = Out.ok (encO (if z = "" then _ else _))
      rw [if_neg hz]
      clear hz e5 hr hs hsz s5 s2
      have : (((L.length + 1 : Nat) : Int)) = (L.length : Int) + 1 := rfl
      unfold encO c__law_read_s6
      walk_at "mp"
/-! ## told -/
theorem told_run {N : Nat} (hN : 6 ≤ N) {x : PySem.Str} (hx : x.length ≤ 5000) {many : Nat} (hm : many ≤ 6) {L : List PySem.Str} {z : PySem.Str} (hs : Txt.split x newl = L ++ [z]) :
    run P N 384 [.str x, .int (many : Nat)] = .ok (encO (readL many L z)) := by
  refine run_ok (k := 5) lk__law_told rfl hN fun M hM => ?_
  have e1 := tests_of_run hM hx hm hs
  show (exs (run P M) c__law_told.body [some (false, .str x), some (false, .int (many : Nat)), none]).fin = _
  unfold c__law_told c__law_told_s1 c__law_told_s0
  cases hr : readL many L z with
  | inl j =>
    rw [hr] at e1
    unfold outO at e1
    have e2 : ∀ ρ, hdl [⟨["BadLine"], ["PathError", "BadTests", "BadMany"], some 2, (.ret (.tup [(.lit (.str "line")), (.fld "line")]))⟩, ⟨["BadMany"], ["PathError", "BadLine", "BadTests"], none, (.ret (.tup [(.lit (.str "many"))]))⟩] "BadLine" [("line", PyData.int (j : Nat))] ρ = .ret (.tuple [.str "line", .int (j : Nat)]) := fun ρ => rfl
    clear hr
    unfold encO
    walk_at "mp"
  | inr gs =>
    rw [hr] at e1
    unfold outO at e1
    clear hr
    unfold encO
    walk_at "mp"
/-! ## tests that ascend -/
abbrev Asc (fs : List (List Int)) : Prop := fs.Pairwise fun a b => a < b
theorem zip_asc {fs : List (List Int)} (h : Asc fs) : ∀ q ∈ fs.zip (fs.drop 1), q.1 < q.2 := by
  intro q hq
  obtain ⟨i, hi⟩ := List.getElem?_of_mem hq
  obtain ⟨h1, h2⟩ := List.getElem?_zip_eq_some.mp hi
  rw [List.getElem?_drop] at h2
  obtain ⟨b1, c1⟩ := List.getElem?_eq_some_iff.mp h1
  obtain ⟨b2, c2⟩ := List.getElem?_eq_some_iff.mp h2
  rw [← c1, ← c2]
  exact List.pairwise_iff_getElem.mp h _ _ b1 b2 (by omega)
theorem asc_run {N : Nat} (hN : 1 ≤ N) {fs : List (List Int)} (h : Asc fs) (hz : fs.length ≤ 100) : run P N 84 [.tuple (tsts fs)] = .ok (.bool true) := by
  refine run_ok (k := 0) lk_ascends rfl hN fun M hM => ?_
  have e1 : zipI (tsts fs) ((tsts fs).drop 1) = (fs.zip (fs.drop 1)).map fun q => PyData.tuple [tupI q.1, tupI q.2] := by
    unfold zipI tsts
    rw [← List.map_drop, List.zip_map, List.map_map]
    rfl
  have e2 : sliceD (.tuple (tsts fs)) (some 1) none = .ok (.tuple ((tsts fs).drop 1)) := by
    show Out.ok (PyData.tuple (Mp.cutD (tsts fs) (some 1) none)) = _
    rw [cut_tail]
  have e3 : zipD [.tuple (tsts fs), .tuple ((tsts fs).drop 1)] = .ok ((fs.zip (fs.drop 1)).map fun q => PyData.tuple [tupI q.1, tupI q.2]) := by
    rw [← e1]
    rfl
  have e4 : ev (run P M) (.lc (.tup [(.nm 1), (.nm 2)]) (.zip (.cons (.varB 0) (.cons (.slice (.varB 0) (.yes (.lit (.int 1))) .no) .nil))) .no (.cmp .lt (.varB 1) (.varB 2)) [1, 2]) [some (false, .tuple (tsts fs)), none, none] =
      .ok (.list ((fs.zip (fs.drop 1)).map fun _ => PyData.bool true)) := by
    refine lc_of (xs := fs.zip (fs.drop 1)) (f := fun q => PyData.tuple [tupI q.1, tupI q.2]) (h := fun _ => PyData.bool true) ?_ (by rw [List.length_zip]; omega) fun q hq => ?_
    · walk_at "mp"
    · have e5 := lt_tupI q.1 q.2
      rw [decide_eq_true (zip_asc h q hq)] at e5
      unfold turnD
      walk_at "mp"
  have e6 := all_map (fs.zip (fs.drop 1))
  show (exs (run P M) c_ascends.body [some (false, .tuple (tsts fs)), none, none]).fin = _
  unfold c_ascends
  walk_at "mp"
/-! ## the texts of tests -/
abbrev nS (i : Int) : PySem.Str := mkS (numZ i)
def lineT (t : List Int) : PySem.Str := Txt.join comma (t.map nS)
def textT (fs : List (List Int)) : PySem.Str := Txt.join "" (fs.map fun t => lineT t ++ newl)
structure Tst (many : Nat) (t : List Int) : Prop where
  len : t.length = many
  rng : ∀ i ∈ t, -1000 ≤ i ∧ i ≤ 1000
theorem Tst.inR {many : Nat} {t : List Int} (h : Tst many t) : t.all inR = true := List.all_eq_true.mpr fun i hi => by
  obtain ⟨h1, h2⟩ := h.rng i hi
  unfold LW.inR
  rw [decide_eq_true h1, decide_eq_true h2]
  rfl
theorem numZ_len {i : Int} (h : -1000 ≤ i ∧ i ≤ 1000) : (numZ i).length ≤ 5 := by
  unfold numZ
  split
  · have := TL.numL_len (n := i.toNat) (k := 4) (by decide) (by omega)
    omega
  · have := TL.numL_len (n := (-i).toNat) (k := 4) (by decide) (by omega)
    rw [List.length_cons]
    omega
theorem nS_len {i : Int} (h : -1000 ≤ i ∧ i ≤ 1000) : (nS i).length ≤ 5 := by rw [mkS_len]; exact numZ_len h
theorem strs_map (l : List PySem.Str) : strsD (l.map .str) = some l := by
  induction l with
  | nil => rfl
  | cons x l ih =>
    show (strsD (l.map .str)).map (x :: ·) = _
    rw [ih]
    rfl
theorem sum_len {l : List PySem.Str} {B : Nat} (h : ∀ x ∈ l, x.length ≤ B) : (l.map (·.length)).sum ≤ l.length * B := by
  induction l with
  | nil => simp
  | cons x l ih =>
    have h1 := h x (List.mem_cons_self ..)
    have h2 := ih fun y hy => h y (List.mem_cons_of_mem _ hy)
    rw [List.map_cons, List.sum_cons, List.length_cons, Nat.succ_mul]
    omega
theorem join_ok {a : PySem.Str} {l : List PySem.Str} {B : Nat} (h : ∀ x ∈ l, x.length ≤ B) (hb : l.length * B + l.length * a.length ≤ 16777216) : joinD (.str a) (.list (l.map .str)) = .ok (.str (Txt.join a l)) := by
  have := sum_len h
  simp only [joinD, strs_map]
  exact if_pos (by omega)
theorem joinL_len (S : List Nat) : ∀ (l : List (List Nat)) (B : Nat), (∀ x ∈ l, x.length ≤ B) → (TL.joinL S l).length ≤ l.length * (B + S.length)
  | [], B, h => Nat.zero_le _
  | [p], B, h => by
    have := h p (List.mem_singleton.mpr rfl)
    show p.length ≤ 1 * _
    omega
  | p :: q :: r, B, h => by
    have h1 := h p (List.mem_cons_self ..)
    have h2 := joinL_len S (q :: r) B fun y hy => h y (List.mem_cons_of_mem _ hy)
    show (p ++ (S ++ TL.joinL S (q :: r))).length ≤ _
    rw [List.length_append, List.length_append, List.length_cons (as := q :: r), Nat.succ_mul]
    omega
theorem tl_joinT (y : PySem.Str) (l : List PySem.Str) : tl (Txt.join y l) = TL.joinL (tl y) (l.map tl) := by
  rw [TL.join_eq]
  exact TL.tl_join y l
theorem join_len {y : PySem.Str} {l : List PySem.Str} {B : Nat} (h : ∀ x ∈ l, x.length ≤ B) : (Txt.join y l).length ≤ l.length * (B + y.length) := by
  have := joinL_len (tl y) (l.map tl) B fun x hx => by
    obtain ⟨z, hz, rfl⟩ := List.mem_map.mp hx
    rw [← len_tl]
    exact h z hz
  rw [List.length_map, ← len_tl, ← tl_joinT, ← len_tl] at this
  exact this
theorem line_len {many : Nat} (hm : many ≤ 6) {t : List Int} (h : Tst many t) : (lineT t).length ≤ 42 := by
  have := join_len (y := comma) (l := t.map nS) (B := 5) fun x hx => by
    obtain ⟨i, hi, rfl⟩ := List.mem_map.mp hx
    exact nS_len (h.rng i hi)
  rw [List.length_map, h.len] at this
  have hc : comma.length = 2 := by decide
  rw [hc] at this
  unfold lineT
  omega
theorem app_str {x y : PySem.Str} (h : x.length + y.length ≤ 100000) : addD (.str x) (.str y) = .ok (.str (x ++ y)) := if_pos (Nat.le_trans h (by decide))
theorem newl_len : newl.length = 1 := by decide
theorem len_app (x y : PySem.Str) : (x ++ y).length = x.length + y.length := by
  rw [len_tl]
  show (TL.tl (x ++ y)).length = _
  rw [TL.tl_append, List.length_append, ← TL.len_tl, ← TL.len_tl]
theorem text_len {many : Nat} (hm : many ≤ 6) {fs : List (List Int)} (h : ∀ t ∈ fs, Tst many t) : (textT fs).length ≤ fs.length * 43 := by
  have := join_len (y := "") (l := fs.map fun t => lineT t ++ newl) (B := 43) fun x hx => by
    obtain ⟨t, ht, rfl⟩ := List.mem_map.mp hx
    rw [len_app, newl_len]
    have := line_len hm (h t ht)
    omega
  rw [List.length_map] at this
  exact this
/-- ", ".join([str(one) for one in test]) -/
theorem line_run {G : Nat → List D → Out D} {many : Nat} (hm : many ≤ 6) {t : List Int} (h : Tst many t) {ρ : Rho} {i : Nat} (hr : getB ρ i = .ok (tupI t)) (h1 : 1 < ρ.length) (hi : i ≠ 1) :
    ev G (.join (.lit (.str ", ")) (.lc (.nm 1) (.pl (.varB i)) .no (.bi .str (.cons (.varB 1) .nil)) [1])) ρ = .ok (.str (lineT t)) := by
  have e1 : ev G (.lc (.nm 1) (.pl (.varB i)) .no (.bi .str (.cons (.varB 1) .nil)) [1]) ρ = .ok (.list (t.map fun i => PyData.str (nS i))) := by
    refine lc_of (xs := t) (f := PyData.int) (h := fun i => PyData.str (nS i)) ?_ (by rw [h.len]; omega) fun j hj => ?_
    · show (ev G (.varB i) ρ).bind itemsD = _
      rw [ev_varB, hr]
      rfl
    · have hj := h.rng j hj
      have e := str_run (i := j) ⟨by omega, by omega⟩
      refine turn_nm rfl ?_
      have hg : getB ((wipeR ρ [1]).set 1 (some (false, .int j))) 1 = .ok (.int j) := getB_of (b := false) (by
        rw [wipe_cons, wipe_nil, List.set_set, List.getElem?_set_self h1])
      show (evs G _ _).bind (Bi.f .str) = _
      rw [evs_cons, ev_varB, hg, Mp.ok_bind, evs_nil, Mp.ok_bind, Mp.ok_bind, bf_strX, e]
  have e2 : joinD (.str comma) (.list ((t.map nS).map .str)) = .ok (.str (Txt.join comma (t.map nS))) := join_ok (B := 5) (fun x hx => by
    obtain ⟨i, hi, rfl⟩ := List.mem_map.mp hx
    exact nS_len (h.rng i hi)) (by
    have hc : comma.length = 2 := by decide
    rw [List.length_map, h.len, hc]
    omega)
  rw [List.map_map] at e2
  exact ev_join_ok (a := comma) rfl e1 e2
/-- the text, joined of lines -/
theorem text_run {G : Nat → List D → Out D} {many : Nat} (hm : many ≤ 6) {fs : List (List Int)} (h : ∀ t ∈ fs, Tst many t) (hl : fs.length ≤ 60) {ρ : Rho} {i : Nat} (hr : getB ρ 0 = .ok (.tuple (tsts fs))) (h1 : i < ρ.length) (hi : i ≠ 1) (h2 : 1 < ρ.length) :
    ev G (.join (.lit (.str "")) (.lc (.nm i) (.pl (.varB 0)) .no (.bin .add (.join (.lit (.str ", ")) (.lc (.nm 1) (.pl (.varB i)) .no (.bi .str (.cons (.varB 1) .nil)) [1])) (.lit (.str "\n"))) [i])) ρ = .ok (.str (textT fs)) := by
  have e1 : ev G (.lc (.nm i) (.pl (.varB 0)) .no (.bin .add (.join (.lit (.str ", ")) (.lc (.nm 1) (.pl (.varB i)) .no (.bi .str (.cons (.varB 1) .nil)) [1])) (.lit (.str "\n"))) [i]) ρ = .ok (.list (fs.map fun t => PyData.str (lineT t ++ newl))) := by
    refine lc_of (xs := fs) (f := tupI) (h := fun t => PyData.str (lineT t ++ newl)) ?_ (by omega) fun t ht => ?_
    · show (ev G (.varB 0) ρ).bind itemsD = _
      rw [ev_varB, hr]
      rfl
    · refine turn_nm rfl ?_
      have hg : getB ((wipeR ρ [i]).set i (some (false, tupI t))) i = .ok (tupI t) := getB_of (b := false) (by
        rw [wipe_cons, wipe_nil, List.set_set, List.getElem?_set_self h1])
      have e := line_run (G := G) hm (h t ht) hg (by rw [List.length_set, wipe_cons, List.length_set]; exact h2) hi
      have hlen := line_len hm (h t ht)
      have e3 : addD (.str (lineT t)) (.str newl) = .ok (.str (lineT t ++ newl)) := app_str (by rw [newl_len]; omega)
      rw [ev_bin, e]
      exact e3
  have e2 : joinD (.str "") (.list ((fs.map fun t => lineT t ++ newl).map .str)) = .ok (.str (textT fs)) := join_ok (B := 43) (fun x hx => by
    obtain ⟨t, ht, rfl⟩ := List.mem_map.mp hx
    rw [len_app, newl_len]
    have := line_len hm (h t ht)
    omega) (by
    have hc : PySem.Str.length "" = 0 := by decide
    rw [List.length_map, hc]
    omega)
  rw [List.map_map] at e2
  exact ev_join_ok (a := "") rfl e1 e2
theorem law_text_run {N : Nat} (hN : 1 ≤ N) {many : Nat} (hm : many ≤ 6) {fs : List (List Int)} (h : ∀ t ∈ fs, Tst many t) (hl : fs.length ≤ 60) : run P N 381 [.tuple (tsts fs)] = .ok (.str (textT fs)) := by
  refine run_ok (k := 0) lk__law_text rfl hN fun M hM => ?_
  have e := text_run (G := run P M) hm h hl (ρ := [some (false, .tuple (tsts fs)), none, none]) (i := 2) rfl (by simp) (by decide) (by simp)
  show (exs (run P M) c__law_text.body [some (false, .tuple (tsts fs)), none, none]).fin = _
  unfold c__law_text c__law_text_l1 c__law_text_l0
  rw [exs_cons, ex_ret, e]
  rfl
theorem are_tests_run {N : Nat} (hN : 3 ≤ N) {many : Nat} (hmany : many ≤ 100000) {fs : List (List Int)} (h : ∀ t ∈ fs, Tst many t) (hl : fs.length ≤ 60) (ha : Asc fs) : run P N 355 [.tuple (tsts fs), .int (many : Nat)] = .ok (.bool true) := by
  refine run_ok (k := 2) lk_are_tests rfl hN fun M hM => ?_
  have a1 : lenF (.tuple (tsts fs)) = .ok (.int (fs.length : Nat)) := by
    rw [Mp.len_tup]
    unfold tsts
    rw [List.length_map]
  have a2 : decide ((60 : Int) < (fs.length : Nat)) = false := decide_eq_false (by omega)
  have s0 : ex (run P M) c_are_tests_s0 [some (false, .tuple (tsts fs)), some (false, .int (many : Nat)), none] = .nx [some (false, .tuple (tsts fs)), some (false, .int (many : Nat)), none] := by
    unfold c_are_tests_s0
    have b1 : isiO (.tuple (tsts fs)) "tuple" = .ok (.bool true) := rfl
    walk_at "mp"
  have b : ∀ v, ev (run P M) c_are_tests_l1 [some (false, .tuple (tsts fs)), some (false, .int (many : Nat)), v] = .ok (.list (fs.map fun _ => PyData.bool true)) := fun v => by
    refine lc_of (xs := fs) (f := tupI) (h := fun _ => PyData.bool true) rfl (by omega) fun t ht => ?_
    have c1 : isiO (tupI t) "tuple" = .ok (.bool true) := rfl
    have c2 : lenF (tupI t) = .ok (.int (many : Nat)) := by
      unfold tupI
      rw [Mp.len_tup, List.length_map, (h t ht).len]
    have c3 : eqD (.int (many : Nat)) (.int (many : Nat)) = .ok (.bool true) := by
      rw [Mp.eqD_int, beq_self_eq_true]
    refine turn_nm rfl ?_
    clear h ht s0
    walk_at "mp"
  have c : ∀ v, ev (run P M) c_are_tests_l3 [some (false, .tuple (tsts fs)), some (false, .int (many : Nat)), v] = .ok (.list (fs.map fun _ => PyData.bool true)) := fun v => by
    refine lc_of (xs := fs) (f := tupI) (h := fun _ => PyData.bool true) rfl (by omega) fun t ht => ?_
    have c1 : run P M 356 [tupI t] = .ok (.bool true) := by
      have := inputs_run (ns := t) (by
        have := (h t ht).len
        have h6 : t.length ≤ 100000 := by
          exact Nat.le_trans (Nat.le_of_eq this) (Nat.le_trans (Nat.le_refl _) hmany)
        exact h6) false M (by omega)
      rw [(h t ht).inR] at this
      exact this
    refine turn_nm rfl ?_
    clear h ht s0
    walk_at "mp"
  have d := all_map fs
  have e := asc_run (N := M) (by omega) ha (by omega)
  show (exs (run P M) c_are_tests.body [some (false, .tuple (tsts fs)), some (false, .int (many : Nat)), none]).fin = _
  clear h ha
  unfold c_are_tests c_are_tests_s2 c_are_tests_s4
  walk_at "mp"
/-! ## tests_text -/
theorem tests_text_run {N : Nat} (hN : 5 ≤ N) {many : Nat} (hm : many ≤ 6) {fs : List (List Int)} (h : ∀ t ∈ fs, Tst many t) (hl : fs.length ≤ 60) (ha : Asc fs) : run P N 377 [.tuple (tsts fs)] = .ok (.str (textT fs)) := by
  refine run_ok (k := 4) lk_tests_text rfl hN fun M hM => ?_
  obtain ⟨m', hm', hmt⟩ : ∃ m' : Nat, m' ≤ 6 ∧ (∀ t ∈ fs, Tst m' t) ∧ ev (run P M) (.ite (.cmp .gt (.bi .len (.cons (.varB 0) .nil)) (.lit (.int 0))) (.bi .len (.cons (.idx (.varB 0) (.lit (.int 0))) .nil)) (.lit (.int 0))) [some (false, .tuple (tsts fs)), none, none, none] = .ok (.int (m' : Nat)) := by
    cases fs with
    | nil => exact ⟨0, by decide, (fun t ht => by cases ht), rfl⟩
    | cons t r =>
      refine ⟨many, hm, h, ?_⟩
      have e1 : lenF (.tuple (tsts (t :: r))) = .ok (.int ((r.length : Int) + 1)) := by
        rw [Mp.len_tup]
        unfold tsts
        rw [List.length_map]
        rfl
      have e2 : decide ((0 : Int) < (r.length : Int) + 1) = true := decide_eq_true (by omega)
      have e3 : idxD (.tuple (tsts (t :: r))) (.int 0) = .ok (tupI t) := idx_tup (i := 0) rfl
      have e4 : lenF (tupI t) = .ok (.int (many : Nat)) := by
        unfold tupI
        rw [Mp.len_tup, List.length_map, (h t (List.mem_cons_self ..)).len]
      clear h ha
      walk_at "mp"
  obtain ⟨hmt, e2⟩ := hmt
  have e3 := are_tests_run (N := M) (by omega) (many := m') (by omega) hmt hl ha
  have b : ev (run P M) c_tests_text_l0 [some (false, .tuple (tsts fs)), none, none, none] = .ok (.list (fs.map fun _ => PyData.bool true)) := by
    refine lc_of (xs := fs) (f := tupI) (h := fun _ => PyData.bool true) rfl (by omega) fun t ht => ?_
    rfl
  have d := all_map fs
  have s1 : ex (run P M) c_tests_text_s1 [some (false, .tuple (tsts fs)), none, none, none] = .nx [some (false, .tuple (tsts fs)), none, none, none] := by
    have b1 : isiO (.tuple (tsts fs)) "tuple" = .ok (.bool true) := rfl
    unfold c_tests_text_s1
    clear h ha hmt e2
    walk_at "mp"
  have s2 : ex (run P M) c_tests_text_s2 [some (false, .tuple (tsts fs)), none, none, none] = .nx [some (false, .tuple (tsts fs)), none, some (false, .int (m' : Nat)), none] := by
    unfold c_tests_text_s2
    rw [ex_set, e2]
    rfl
  have s3 : ex (run P M) c_tests_text_s3 [some (false, .tuple (tsts fs)), none, some (false, .int (m' : Nat)), none] = .nx [some (false, .tuple (tsts fs)), none, some (false, .int (m' : Nat)), none] := by
    have b1 : decide ((6 : Int) < (m' : Nat)) = false := decide_eq_false (by omega)
    unfold c_tests_text_s3
    clear h ha hmt e2
    walk_at "mp"
  have s4 := text_run (G := run P M) hm h hl (ρ := [some (false, .tuple (tsts fs)), none, some (false, .int (m' : Nat)), none]) (i := 3) rfl (by simp) (by decide) (by simp)
  show (exs (run P M) c_tests_text.body [some (false, .tuple (tsts fs)), none, none, none]).fin = _
  unfold c_tests_text c_tests_text_l5 c_tests_text_l4
  rw [exs_cons, s1, nx_seq, exs_cons, s2, nx_seq, exs_cons, s3, nx_seq, exs_cons, ex_ret, s4]
  rfl
/-! ## read back -/
theorem mem_joinL {S : List Nat} {c : Nat} : ∀ {l : List (List Nat)}, c ∈ TL.joinL S l → c ∈ S ∨ ∃ p ∈ l, c ∈ p
  | [], h => by cases h
  | [p], h => .inr ⟨p, List.mem_singleton.mpr rfl, h⟩
  | p :: q :: r, h => by
    have h : c ∈ p ++ (S ++ TL.joinL S (q :: r)) := h
    rcases List.mem_append.mp h with h | h
    · exact .inr ⟨p, List.mem_cons_self .., h⟩
    · rcases List.mem_append.mp h with h | h
      · exact .inl h
      · rcases mem_joinL h with h | ⟨x, hx, h⟩
        · exact .inl h
        · exact .inr ⟨x, List.mem_cons_of_mem _ hx, h⟩
theorem numZ_mem {i : Int} {c : Nat} (h : c ∈ numZ i) : c = 45 ∨ (48 ≤ c ∧ c ≤ 57) := by
  unfold numZ at h
  split at h
  · exact .inr (TL.numL_digits _ c h)
  · rcases List.mem_cons.mp h with h | h
    · exact .inl h
    · exact .inr (TL.numL_digits _ c h)
theorem tl_line (t : List Int) : tl (lineT t) = TL.joinL [44, 32] (t.map numZ) := by
  unfold lineT
  rw [tl_joinT, List.map_map]
  have : tl comma = [44, 32] := by decide
  rw [this]
  exact congrArg _ (List.map_congr_left fun i _ => tl_mkS _)
theorem line_mem {t : List Int} {c : Nat} (h : c ∈ tl (lineT t)) : c = 44 ∨ c = 32 ∨ c = 45 ∨ (48 ≤ c ∧ c ≤ 57) := by
  rw [tl_line] at h
  rcases mem_joinL h with h | ⟨p, hp, h⟩
  · simp at h
    omega
  · obtain ⟨i, _, rfl⟩ := List.mem_map.mp hp
    have := numZ_mem h
    omega
theorem joinL_lines : ∀ l : List (List Nat), TL.joinL [] (l.map (· ++ [10])) = TL.joinL [10] (l ++ [[]])
  | [] => rfl
  | [p] => by
    show p ++ [10] = p ++ ([10] ++ [])
    rfl
  | p :: q :: r => by
    have ih := joinL_lines (q :: r)
    show (p ++ [10]) ++ ([] ++ TL.joinL [] ((q :: r).map (· ++ [10]))) = p ++ ([10] ++ TL.joinL [10] ((q :: r) ++ [[]]))
    rw [ih, List.nil_append, List.append_assoc]
theorem text_lines (fs : List (List Int)) : textT fs = Txt.join newl (fs.map lineT ++ [("" : PySem.Str)]) := by
  refine str_ext ?_
  unfold textT
  rw [tl_joinT, tl_joinT]
  have h1 : tl newl = [10] := by decide
  have h2 : tl "" = [] := by decide
  have h3 : ((fs.map fun t => lineT t ++ newl).map tl) = (fs.map fun t => tl (lineT t)).map (· ++ [10]) := by
    rw [List.map_map, List.map_map]
    refine List.map_congr_left fun t _ => ?_
    show TL.tl (lineT t ++ newl) = _
    rw [TL.tl_append]
    exact congrArg (TL.tl (lineT t) ++ ·) h1
  rw [h1, h2, h3, joinL_lines, List.map_append, List.map_map]
  rfl
theorem split_text (fs : List (List Int)) : Txt.split (textT fs) newl = fs.map lineT ++ [("" : PySem.Str)] := by
  rw [text_lines]
  refine TL.split_join (s := 10) (S := []) (by decide) (by decide +kernel) (by simp) fun p hp => ?_
  rcases List.mem_append.mp hp with hp | hp
  · obtain ⟨t, _, rfl⟩ := List.mem_map.mp hp
    intro h
    have := line_mem h
    omega
  · rw [List.mem_singleton.mp hp]
    decide
theorem numZ_ne (i : Int) : numZ i ≠ [] := by
  unfold numZ
  split
  · exact TL.numL_ne _
  · simp
theorem words_line (t : List Int) : wordsL (lineT t) = t.map nS := by
  unfold wordsL
  cases t with
  | nil => rfl
  | cons i r =>
    have hne : lineT (i :: r) ≠ "" := fun z => by
      have h1 := congrArg tl z
      rw [tl_line] at h1
      have h2 : tl "" = [] := by decide
      rw [h2] at h1
      cases r with
      | nil => exact numZ_ne i h1
      | cons j r =>
        have h1 : numZ i ++ _ = [] := h1
        exact numZ_ne i (List.append_eq_nil_iff.mp h1).1
    rw [if_neg hne]
    unfold lineT
    refine TL.split_join (s := 44) (S := [32]) (by decide) (by decide +kernel) (by simp) fun p hp => ?_
    obtain ⟨j, _, rfl⟩ := List.mem_map.mp hp
    intro h
    have h : 44 ∈ tl (mkS (numZ j)) := h
    rw [tl_mkS] at h
    have := numZ_mem h
    omega
theorem neg_num (n : Nat) : neg? (TL.numL n) = false := by
  refine decide_eq_false fun z => ?_
  cases h : TL.numL n with
  | nil => exact TL.numL_ne n h
  | cons c r =>
    rw [h] at z
    have : c = 45 := by simpa using z
    have := TL.numL_digits n c (by rw [h]; exact List.mem_cons_self ..)
    omega
theorem numR_back {i : Int} (h : -1000 ≤ i ∧ i ≤ 1000) : numR (numZ i) = some i := by
  have key : okW (numZ i) = true ∧ valW (numZ i) = i := by
    unfold okW valW
    by_cases h0 : 0 ≤ i
    · have e : numZ i = TL.numL i.toNat := if_pos h0
      have hn := neg_num i.toNat
      have hf : figs (numZ i) = TL.numL i.toNat := by
        unfold figs
        rw [e, hn]
        rfl
      rw [hf, e, hn, digs_num, TL.numL_val]
      have h1 := TL.numL_len (n := i.toNat) (k := 4) (by decide) (by omega)
      have h2 := List.length_pos_iff.mpr (TL.numL_ne i.toNat)
      refine ⟨?_, ?_⟩
      · rw [decide_eq_true (show 1 ≤ _ ∧ _ from ⟨h2, h1⟩)]
        rfl
      · rw [if_neg (by decide)]
        omega
    · have e : numZ i = 45 :: TL.numL (-i).toNat := if_neg h0
      have hn : neg? (45 :: TL.numL (-i).toNat) = true := decide_eq_true rfl
      have hf : figs (numZ i) = TL.numL (-i).toNat := by
        unfold figs
        rw [e, hn]
        rfl
      rw [hf, e, hn, digs_num, TL.numL_val]
      have h1 := TL.numL_len (n := (-i).toNat) (k := 4) (by decide) (by omega)
      have h2 := List.length_pos_iff.mpr (TL.numL_ne (-i).toNat)
      refine ⟨?_, ?_⟩
      · rw [decide_eq_true (show 1 ≤ _ ∧ _ from ⟨h2, h1⟩)]
        rfl
      · rw [if_pos rfl]
        omega
  obtain ⟨k1, k2⟩ := key
  have k3 : lead (numZ i) = false := (back_iff k1).mp (by rw [k2])
  unfold numR
  rw [k1, k2, k3, decide_eq_true h.1, decide_eq_true h.2]
  rfl
theorem test_back {many : Nat} {t : List Int} (h : Tst many t) : testL (lineT t) many = some t := by
  have e : (t.map nS).map (fun w => numR (tl w)) = t.map some := by
    rw [List.map_map]
    refine List.map_congr_left fun i hi => ?_
    show numR (tl (mkS (numZ i))) = _
    rw [tl_mkS]
    exact numR_back (h.rng i hi)
  rw [row_eq, words_line, e, List.length_map, if_pos ⟨h.len, by simp⟩, List.filterMap_map]
  congr 1
  rw [show (id ∘ some : Int → Option Int) = some from rfl]
  exact List.filterMap_some
theorem rd_back {many : Nat} : ∀ (fs : List (List Int)) (k : Nat) (acc : List (List Int)), (∀ t ∈ fs, Tst many t) → Asc (acc ++ fs) → k + fs.length ≤ 60 → rdL many (fs.map lineT) k acc = .inr (acc ++ fs)
  | [], k, acc, _, _, _ => by rw [List.append_nil]; rfl
  | t :: fs, k, acc, h, ha, hk => by
    rw [List.length_cons] at hk
    have ho : okN acc t = true := by
      unfold okN
      cases hl : acc.getLast? with
      | none => rfl
      | some l =>
        have hm : l ∈ acc := List.mem_of_getLast? hl
        exact decide_eq_true ((List.pairwise_append.mp ha).2.2 l hm t (List.mem_cons_self ..))
    rw [List.map_cons, rdL_good (test_back (h t (List.mem_cons_self ..))) ⟨by omega, ho⟩, rd_back fs (k + 1) (acc ++ [t]) (fun u hu => h u (List.mem_cons_of_mem _ hu)) (by rw [List.append_assoc]; exact ha) (by omega), List.append_assoc]
    rfl
theorem told_back {N : Nat} (hN : 6 ≤ N) {many : Nat} (hm : many ≤ 6) {fs : List (List Int)} (h : ∀ t ∈ fs, Tst many t) (hl : fs.length ≤ 60) (ha : Asc fs) : run P N 384 [.str (textT fs), .int (many : Nat)] = .ok (.tuple [.str "tests", .tuple (tsts fs)]) := by
  have hlen := text_len hm h
  rw [told_run hN (by omega) hm (split_text fs)]
  unfold readL
  rw [rd_back fs 0 [] h ha (by omega)]
  rfl

/-! ## the law -/
theorem draw {ds : List Int} {i : Nat} (h : i < ds.length) : idxD (nums ds) (.int (i : Nat)) = .ok (.int (ds.getD i 0)) := by
  refine idx_list ?_
  rw [List.getElem?_map, List.getElem?_eq_getElem h, List.getD_eq_getElem?_getD, List.getElem?_eq_getElem h]
  rfl
theorem drawI {ds : List Int} {i : Nat} {j : Int} (h : i < ds.length) (e : (i : Int) = j) : idxD (nums ds) (.int j) = .ok (.int (ds.getD i 0)) := by
  rw [← e]
  exact draw h
theorem getD_nn {ds : List Int} (h : ∀ d ∈ ds, 0 ≤ d) (i : Nat) : 0 ≤ ds.getD i 0 := by
  rw [List.getD_eq_getElem?_getD]
  cases e : ds[i]? with
  | none => exact Int.le_refl 0
  | some d => exact h d (List.mem_of_getElem? e)
def mkK (k : Nat) : Int := if k % 3 = 0 then 9 else if k % 3 = 1 then 200 else 2001
def ckK (k : Nat) : Int := if k % 3 = 0 then 4 else if k % 3 = 1 then 100 else 1000
theorem mk_run (k : Nat) : idxD (.list [.int 9, .int 200, .int 2001]) (.int ((k : Int) % 3)) = .ok (.int (mkK k)) ∧ idxD (.list [.int 4, .int 100, .int 1000]) (.int ((k : Int) % 3)) = .ok (.int (ckK k)) := by
  have h : k % 3 < 3 := Nat.mod_lt _ (by decide)
  unfold mkK ckK
  have e : (k : Int) % 3 = ((k % 3 : Nat) : Int) := by omega
  rw [e]
  generalize k % 3 = r at h
  match r, h with
  | 0, _ => exact ⟨rfl, rfl⟩
  | 1, _ => exact ⟨rfl, rfl⟩
  | 2, _ => exact ⟨rfl, rfl⟩
def entry (ds : List Int) (k j : Nat) : Int := ds.getD (1 + 3 * k + j) 0 % mkK k - ckK k
theorem mk_pos (k : Nat) : 0 < mkK k := by
  unfold mkK
  split
  · decide
  · split <;> decide
theorem entry_rng (ds : List Int) (k j : Nat) : -1000 ≤ entry ds k j ∧ entry ds k j ≤ 1000 := by
  unfold entry
  have h1 := Int.emod_nonneg (ds.getD (1 + 3 * k + j) 0) (show mkK k ≠ 0 from Int.ne_of_gt (mk_pos k))
  have h2 := Int.emod_lt_of_pos (ds.getD (1 + 3 * k + j) 0) (mk_pos k)
  generalize ds.getD (1 + 3 * k + j) 0 % mkK k = v at h1 h2 ⊢
  unfold mkK at h2
  unfold ckK
  split at h2
  · rw [if_pos (by assumption)]
    omega
  · rename_i h
    rw [if_neg h]
    split at h2
    · rw [if_pos (by assumption)]
      omega
    · rw [if_neg (by assumption)]
      omega
def rowK (ds : List Int) (many k : Nat) : List Int := (List.range many).map fun j => entry ds k j
theorem rowK_tst (ds : List Int) (many k : Nat) : Tst many (rowK ds many k) := ⟨by unfold rowK; rw [List.length_map, List.length_range], fun i hi => by
  obtain ⟨j, _, rfl⟩ := List.mem_map.mp hi
  exact entry_rng ds k j⟩
theorem l1_run {G : Nat → List D → Out D} {ds : List Int} (hd : ds.length = 90) {many k : Nat} (hm : many ≤ 6) (hk : k < 8) (sc : D) :
    ev G c_law_l1 [some (false, sc), some (false, nums ds), some (false, .int (many : Nat)), none, none, some (false, .int (k : Nat)), none, none, none, none, none, none, none, none, none] = .ok (.list ((rowK ds many k).map .int)) := by
  unfold rowK
  rw [List.map_map]
  have hr := range_nat (m := many) (by omega)
  refine lc_of (xs := List.range many) (f := fun i => PyData.int (i : Nat)) (h := fun j => PyData.int (entry ds k j)) ?_ (by rw [List.length_range]; omega) fun j hj => ?_
  · walk_at "mp"
  · have hj := List.mem_range.mp hj
    have e1 := drawI (ds := ds) (i := 1 + 3 * k + j) (j := 1 + 3 * (k : Int) + (j : Int)) (by omega) (by omega)
    obtain ⟨e2, e3⟩ := mk_run k
    have e4 : mulD (.int 3) (.int (k : Nat)) = .ok (.int (3 * (k : Int))) := by
      have : smallI 3 = true := by decide
      show (if (smallI 3 || smallI (k : Nat)) = true then Out.ok (PyData.int (3 * (k : Int))) else .stuck) = _
      rw [this]
      rfl
    have e5 : modD (.int (k : Nat)) (.int 3) = .ok (.int ((k : Int) % 3)) := mod_pos (by decide)
    have e6 := mod_pos (i := ds.getD (1 + 3 * k + j) 0) (mk_pos k)
    refine turn_nm rfl ?_
    unfold entry
    clear hr
    walk_at "mp"
def rows (ds : List Int) (many m : Nat) : List (List Int) := (List.range m).map fun k => rowK ds many k
theorem l2_run {G : Nat → List D → Out D} {ds : List Int} (hd : ds.length = 90) (hn : ∀ d ∈ ds, 0 ≤ d) {many : Nat} (hm : many ≤ 6) (sc : D) :
    ∃ m, m < 8 ∧ ev G c_law_l2 [some (false, sc), some (false, nums ds), some (false, .int (many : Nat)), none, none, none, none, none, none, none, none, none, none, none, none] = .ok (.list (tsts (rows ds many m))) := by
  have h30 := getD_nn hn 30
  have h1 := Int.emod_nonneg (ds.getD 30 0) (show (8 : Int) ≠ 0 by decide)
  have h2 := Int.emod_lt_of_pos (ds.getD 30 0) (show (0 : Int) < 8 by decide)
  obtain ⟨m, hme⟩ := Int.eq_ofNat_of_zero_le h1
  refine ⟨m, by omega, ?_⟩
  have e1 := drawI (ds := ds) (i := 30) (j := 30) (by omega) rfl
  have e2 := mod_pos (i := ds.getD 30 0) (show (0 : Int) < 8 by decide)
  rw [hme] at e2
  have hr := range_nat (m := m) (by omega)
  unfold rows tsts
  rw [List.map_map]
  refine lc_of (xs := List.range m) (f := fun i => PyData.int (i : Nat)) (h := fun k => tupI (rowK ds many k)) ?_ (by rw [List.length_range]; omega) fun k hk => ?_
  · walk_at "mp"
  · have hk := List.mem_range.mp hk
    have e3 := l1_run (G := G) hd hm (show k < 8 by omega) sc
    refine turn_nm rfl ?_
    clear e1 e2 hr
    unfold tupI
    walk_at "mp"
theorem sort_run {ts : List (List Int)} {many : Nat} (h : ∀ t ∈ ts, Tst many t) (hl : ts.length < 64) : sortSetG (.list (tsts ts)) = .ok (.list (tsts (sortT (dedT ts)))) := by
  cases ts with
  | nil =>
    have h1 : sortSetG (.list (tsts [])) = .ok (.list ((sortS (dedS [])).map .str)) := rfl
    have h2 : sortS (dedS []) = [] := List.mergeSort_nil
    have h3 : sortT (dedT []) = [] := List.mergeSort_nil
    rw [h1, h2, h3]
    rfl
  | cons t r =>
    have h1 : strsD (tsts (t :: r)) = none := rfl
    have h2 : tsD (tsts (t :: r)) = some (t :: r) := tsD_map (t :: r)
    have h3 : ((t :: r).all (fun k => !k.isEmpty) || (t :: r).all (fun k => k.isEmpty)) = true := by
      cases many with
      | zero =>
        have : (t :: r).all (fun k => k.isEmpty) = true := List.all_eq_true.mpr fun u hu => by
          have := (h u hu).len
          rw [List.isEmpty_iff, ← List.length_eq_zero_iff]
          exact this
        rw [this, Bool.or_true]
      | succ n =>
        have : (t :: r).all (fun k => !k.isEmpty) = true := List.all_eq_true.mpr fun u hu => by
          have := (h u hu).len
          cases u with
          | nil => cases this
          | cons a b => rfl
        rw [this, Bool.true_or]
    simp only [sortSetG, h1, h2]
    rw [if_pos ⟨hl, h3⟩]
    rfl
theorem sort_mem {ts : List (List Int)} : ∀ t ∈ sortT (dedT ts), t ∈ ts := fun t ht => (mem_dedT ts t).mp ((List.mergeSort_perm _ leT).mem_iff.mp ht)
theorem sort_asc (ts : List (List Int)) : Asc (sortT (dedT ts)) := by
  have h1 : (sortT (dedT ts)).Pairwise (fun a b => leT a b = true) := List.pairwise_mergeSort leT_trans leT_total _
  have h2 : (sortT (dedT ts)).Nodup := (List.mergeSort_perm _ leT).nodup_iff.mpr (nodup_dedT ts)
  refine (h1.and h2).imp fun {a b} hab => ?_
  have h3 : a ≤ b := of_decide_eq_true hab.1
  rcases Classical.em (a < b) with h | h
  · exact h
  · exact absurd (Std.le_antisymm h3 (Std.not_lt.mp h)) hab.2
theorem dedT_len : ∀ ts : List (List Int), (dedT ts).length ≤ ts.length
  | [] => Nat.le_refl _
  | t :: r => by
    unfold dedT
    have := dedT_len r
    split
    · exact Nat.le_succ_of_le this
    · exact Nat.succ_le_succ this
theorem sort_len (ts : List (List Int)) : (sortT (dedT ts)).length ≤ ts.length := by
  unfold sortT
  rw [List.length_mergeSort]
  exact dedT_len ts
/-! ### bent texts -/
theorem cut_len (z : PySem.Str) (lo hi : Option Int) : (tl (cutS z lo hi)).length ≤ (tl z).length := by
  unfold cutS
  show (((tl z).drop _).take _).length ≤ (tl z).length
  rw [List.length_take, List.length_drop]
  omega
theorem slice_str {z : PySem.Str} (h : z.length ≤ 100000) (lo hi : Option Int) : ∃ y, sliceD (.str z) lo hi = .ok (.str y) ∧ y.length ≤ z.length := by
  refine ⟨cutS z lo hi, if_pos (Nat.le_trans h (by decide)), ?_⟩
  rw [len_tl, len_tl z]
  exact cut_len z lo hi
theorem pick4 {w : PySem.Str} {i : Int} (h0 : 0 ≤ i) (h1 : i < 4) (hw : w.length ≤ 1) : ∃ u, idxD (.list [.str "", .str w, .str w, .str ""]) (.int i) = .ok (.str u) ∧ u.length ≤ 1 := by
  obtain ⟨n, rfl⟩ := Int.eq_ofNat_of_zero_le h0
  have h1 : n < 4 := by omega
  match n, h1 with
  | 0, _ => exact ⟨"", rfl, by decide⟩
  | 1, _ => exact ⟨w, rfl, hw⟩
  | 2, _ => exact ⟨w, rfl, hw⟩
  | 3, _ => exact ⟨"", rfl, by decide⟩
def signs8 : PySem.Str := "0-1, \n9x"
theorem sign8 {i : Int} (h0 : 0 ≤ i) (h1 : i < 8) : ∃ w, idxD (.str signs8) (.int i) = .ok (.str w) ∧ w.length ≤ 1 := by
  obtain ⟨n, rfl⟩ := Int.eq_ofNat_of_zero_le h0
  have h1 : n < 8 := by omega
  have hl : signs8.cps.toList.length = 8 := by decide
  exact ⟨⟨#[signs8.cps.toList[n]]⟩, idx_chr (List.getElem?_eq_getElem (by omega)) (by decide), Nat.le_refl 1⟩
theorem in02 {i : Int} : inD (.int i) (.tuple [.int 0, .int 2]) = .ok (.bool (decide (i = 0) || decide (i = 2))) := by
  have h : inB (.int i) (.tuple [.int 0, .int 2]) = some (decide (i = 0) || decide (i = 2)) := by
    have e1 : (i == 0) = decide (i = 0) := rfl
    have e2 : (i == 2) = decide (i = 2) := rfl
    have : (([PyData.int 0, .int 2] : List D).any fun y => PyData.eqv y (.int i)) = (decide (i = 0) || decide (i = 2)) := by
      simp only [List.any_cons, List.any_nil, PyData.eqv, Bool.or_false]
      congr 1
      · rw [Bool.eq_iff_iff]
        simp
        exact eq_comm
      · rw [Bool.eq_iff_iff]
        simp
        exact eq_comm
    rw [← this]
    rfl
  unfold inD
  rw [h]
theorem bend_turn {G : Nat → List D → Out D} {ds : List Int} (hd : ds.length = 90) {many k t : Nat} (hk : k < 14) (ht : t < 2) {fs : List (List Int)} {x y : PySem.Str} (hy : y.length ≤ 4000) (sc : D) (o9 o10 o11 : Option (Bool × D)) :
    ∃ (z : PySem.Str) (p9 p10 p11 : Option (Bool × D)), exs G c_law_b7 [some (false, sc), some (false, nums ds), some (false, .int (many : Nat)), some (false, .tuple (tsts fs)), none, some (false, .int (k : Nat)), some (false, .str x), some (false, .str y), some (false, .int (t : Nat)), o9, o10, o11, none, none, none] = .nx [some (false, sc), some (false, nums ds), some (false, .int (many : Nat)), some (false, .tuple (tsts fs)), none, some (false, .int (k : Nat)), some (false, .str x), some (false, .str z), some (false, .int (t : Nat)), p9, p10, p11, none, none, none] ∧ z.length ≤ 2 * y.length + 1 := by
  have e1 := drawI (ds := ds) (i := 45 + k + t) (j := 45 + (k : Int) + (t : Int)) (by omega) (by omega)
  have e2 := drawI (ds := ds) (i := 60 + k + t) (j := 60 + (k : Int) + (t : Int)) (by omega) (by omega)
  have hm : (k + t) % 15 < 15 := Nat.mod_lt _ (by decide)
  have e3 := drawI (ds := ds) (i := 75 + (k + t) % 15) (j := 75 + ((k : Int) + (t : Int)) % 15) (by omega) (by omega)
  have e4 : modD (.int ((k : Int) + (t : Int))) (.int 15) = .ok (.int (((k : Int) + (t : Int)) % 15)) := mod_pos (by decide)
  generalize ds.getD (45 + k + t) 0 = d1 at e1
  generalize ds.getD (60 + k + t) 0 = d2 at e2
  generalize ds.getD (75 + (k + t) % 15) 0 = d3 at e3
  have l1 : lenF (.str y) = .ok (.int (y.length : Nat)) := if_pos (Nat.le_trans hy (by decide))
  have m1 : modD (.int d1) (.int ((y.length : Int) + 1)) = .ok (.int (d1 % ((y.length : Int) + 1))) := mod_pos (by omega)
  have m2 : modD (.int d2) (.int 4) = .ok (.int (d2 % 4)) := mod_pos (by decide)
  have m3 : modD (.int d3) (.int 8) = .ok (.int (d3 % 8)) := mod_pos (by decide)
  have r2 := Int.emod_nonneg d2 (show (4 : Int) ≠ 0 by decide)
  have r2' := Int.emod_lt_of_pos d2 (show (0 : Int) < 4 by decide)
  have r3 := Int.emod_nonneg d3 (show (8 : Int) ≠ 0 by decide)
  have r3' := Int.emod_lt_of_pos d3 (show (0 : Int) < 8 by decide)
  obtain ⟨w, w1, w2⟩ := sign8 r3 r3'
  obtain ⟨u, u1, u2⟩ := pick4 r2 r2' w2
  have i02 := in02 (i := d2 % 4)
  generalize d1 % ((y.length : Int) + 1) = at_ at m1
  generalize d2 % 4 = way at m2 u1 i02
  generalize d3 % 8 = sg at m3 w1
  have s4 : ex G c_law_s4 [some (false, sc), some (false, nums ds), some (false, .int (many : Nat)), some (false, .tuple (tsts fs)), none, some (false, .int (k : Nat)), some (false, .str x), some (false, .str y), some (false, .int (t : Nat)), o9, o10, o11, none, none, none] = .nx [some (false, sc), some (false, nums ds), some (false, .int (many : Nat)), some (false, .tuple (tsts fs)), none, some (false, .int (k : Nat)), some (false, .str x), some (false, .str y), some (false, .int (t : Nat)), some (false, .int at_), some (false, .int way), o11, none, none, none] := by
    unfold c_law_s4
    walk_at "mp"
  have s5 : ex G c_law_s5 [some (false, sc), some (false, nums ds), some (false, .int (many : Nat)), some (false, .tuple (tsts fs)), none, some (false, .int (k : Nat)), some (false, .str x), some (false, .str y), some (false, .int (t : Nat)), some (false, .int at_), some (false, .int way), o11, none, none, none] = .nx [some (false, sc), some (false, nums ds), some (false, .int (many : Nat)), some (false, .tuple (tsts fs)), none, some (false, .int (k : Nat)), some (false, .str x), some (false, .str y), some (false, .int (t : Nat)), some (false, .int at_), some (false, .int way), some (false, .str w), none, none, none] := by
    unfold c_law_s5
    unfold signs8 at w1
    walk_at "mp"
  obtain ⟨a, a1, a2⟩ := slice_str (z := y) (by omega) none (some at_)
  obtain ⟨b, b1, b2⟩ := slice_str (z := y) (by omega) (some (at_ + 1)) none
  obtain ⟨c, c1, c2⟩ := slice_str (z := y) (by omega) (some at_) none
  have q1 : addD (.str a) (.str u) = .ok (.str (a ++ u)) := app_str (by omega)
  have q1l := len_app a u
  have s6 : ∃ z, ex G c_law_s6 [some (false, sc), some (false, nums ds), some (false, .int (many : Nat)), some (false, .tuple (tsts fs)), none, some (false, .int (k : Nat)), some (false, .str x), some (false, .str y), some (false, .int (t : Nat)), some (false, .int at_), some (false, .int way), some (false, .str w), none, none, none] = .nx [some (false, sc), some (false, nums ds), some (false, .int (many : Nat)), some (false, .tuple (tsts fs)), none, some (false, .int (k : Nat)), some (false, .str x), some (false, .str z), some (false, .int (t : Nat)), some (false, .int at_), some (false, .int way), some (false, .str w), none, none, none] ∧ z.length ≤ 2 * y.length + 1 := by
    unfold c_law_s6
    have four : lstD [.str "", .str w, .str w, .str ""] = .ok (.list [.str "", .str w, .str w, .str ""]) := lstD_ok (by show 4 ≤ sizeLine; decide)
    by_cases h0 : (decide (way = 0) || decide (way = 2)) = true
    · rw [h0] at i02
      have q2 : addD (.str (a ++ u)) (.str b) = .ok (.str (a ++ u ++ b)) := app_str (by omega)
      have q2l := len_app (a ++ u) b
      refine ⟨a ++ u ++ b, ?_, by omega⟩
      clear h0 q1l q2l a2 b2 c2 u2 w2 r2 r2' r3 r3'
      walk_at "mp"
    · rw [Bool.not_eq_true] at h0
      rw [h0] at i02
      have c3 : eqD (.int way) (.int 1) = .ok (.bool (decide (way = 1))) := rfl
      by_cases h1 : way = 1
      · rw [decide_eq_true h1] at c3
        have q2 : addD (.str (a ++ u)) (.str c) = .ok (.str (a ++ u ++ c)) := app_str (by omega)
        have q2l := len_app (a ++ u) c
        refine ⟨a ++ u ++ c, ?_, by omega⟩
        clear h0 h1 q1l q2l a2 b2 c2 u2 w2 r2 r2' r3 r3'
        walk_at "mp"
      · rw [decide_eq_false h1] at c3
        have hz : PySem.Str.length "" = 0 := by decide
        have q2 : addD (.str (a ++ u)) (.str "") = .ok (.str (a ++ u ++ "")) := app_str (by rw [hz]; omega)
        have q2l := len_app (a ++ u) ""
        rw [hz] at q2l
        refine ⟨a ++ u ++ "", ?_, by omega⟩
        clear h0 h1 q1l q2l hz a2 b2 c2 u2 w2 r2 r2' r3 r3'
        walk_at "mp"
  obtain ⟨z, s6, hz⟩ := s6
  refine ⟨z, some (false, .int at_), some (false, .int way), some (false, .str w), ?_, hz⟩
  unfold c_law_b7
  rw [exs_cons, s4, nx_seq, exs_cons, s5, nx_seq, exs_cons, s6]
  rfl

theorem spl_ne (S : List Nat) : ∀ (l : List Nat) (k : Nat) (acc : List Nat), TL.spl S k acc l ≠ []
  | [], k, acc => by rw [TL.spl_nil]; simp
  | c :: r, 0, acc => by
    by_cases h : TL.pre S (c :: r) = true
    · rw [TL.spl_hit h]
      simp
    · rw [TL.spl_miss (by simpa using h)]
      exact spl_ne S r 0 _
  | c :: r, k + 1, acc => spl_ne S r k acc
theorem split_some (x : PySem.Str) : ∃ L z, Txt.split x newl = L ++ [z] := by
  have e := TL.split_spl x newl (by decide) (TL.kind_ok (by decide +kernel))
  have hne : Txt.split x newl ≠ [] := fun z => by
    rw [z] at e
    exact spl_ne _ _ _ _ e.symm
  exact ⟨_, _, (List.dropLast_concat_getLast hne).symm⟩
theorem fit_encO (r : Nat ⊕ List (List Int)) : fitD dpt (encO r) = true := by
  cases r with
  | inl j => rfl
  | inr gs =>
    refine fitT fun d hd => ?_
    rcases List.mem_cons.mp hd with rfl | hd
    · rfl
    · rw [List.mem_singleton.mp hd]
      refine fitT fun d hd => ?_
      obtain ⟨t, _, rfl⟩ := List.mem_map.mp hd
      exact fit_tupI t _
theorem told_read {N : Nat} (hN : 6 ≤ N) {x : PySem.Str} (hx : x.length ≤ 5000) {many : Nat} (hm : many ≤ 6) : ∃ r, run P N 384 [.str x, .int (many : Nat)] = .ok (encO r) ∧ run P N 383 [.str x, .int (many : Nat)] = .ok (encO r) := by
  obtain ⟨L, z, hs⟩ := split_some x
  exact ⟨readL many L z, told_run hN hx hm hs, law_read_run (by omega) hx hs⟩
theorem bend_loop {G : Nat → List D → Out D} {ds : List Int} (hd : ds.length = 90) (hn : ∀ d ∈ ds, 0 ≤ d) {many k : Nat} (hk : k < 14) {fs : List (List Int)} {x : PySem.Str} (hx : x.length ≤ 400) (sc : D) (o8 o9 o10 o11 : Option (Bool × D)) :
    ∃ (z : PySem.Str) (p8 p9 p10 p11 : Option (Bool × D)), ex G c_law_s8 [some (false, sc), some (false, nums ds), some (false, .int (many : Nat)), some (false, .tuple (tsts fs)), none, some (false, .int (k : Nat)), some (false, .str x), some (false, .str x), o8, o9, o10, o11, none, none, none] = .nx [some (false, sc), some (false, nums ds), some (false, .int (many : Nat)), some (false, .tuple (tsts fs)), none, some (false, .int (k : Nat)), some (false, .str x), some (false, .str z), p8, p9, p10, p11, none, none, none] ∧ z.length ≤ 5000 := by
  have e1 := drawI (ds := ds) (i := 31 + k) (j := 31 + (k : Int)) (by omega) (by omega)
  have hd31 := getD_nn hn (31 + k)
  generalize ds.getD (31 + k) 0 = d at e1 hd31
  have e2 : modD (.int d) (.int 2) = .ok (.int (d % 2)) := mod_pos (by decide)
  have r : d % 2 = 0 ∨ d % 2 = 1 := by omega
  unfold c_law_s8
  rw [ex_for]
  obtain ⟨z1, a9, a10, a11, q1, l1⟩ := bend_turn (G := G) hd hk (show 0 < 2 by decide) (many := many) (fs := fs) (x := x) (y := x) (by omega) sc o9 o10 o11
  rcases r with r | r
  · have ei : evI G (.rg1 (.cons (.bin .add (.lit (.int 1)) (.bin .mod (.bi .int (.cons (.idx (.varB 1) (.bin .add (.lit (.int 31)) (.varB 5))) .nil)) (.lit (.int 2)))) .nil)) [some (false, sc), some (false, nums ds), some (false, .int (many : Nat)), some (false, .tuple (tsts fs)), none, some (false, .int (k : Nat)), some (false, .str x), some (false, .str x), o8, o9, o10, o11, none, none, none] = .ok [.int (0 : Nat)] := by
      rw [r] at e2
      have e3 : range1D [.int (1 + 0)] = .ok [.int (0 : Nat)] := rfl
      clear q1 l1
      walk_at "mp"
    rw [ei, ok_st, forL_c (ρ1 := [some (false, sc), some (false, nums ds), some (false, .int (many : Nat)), some (false, .tuple (tsts fs)), none, some (false, .int (k : Nat)), some (false, .str x), some (false, .str x), some (false, .int (0 : Nat)), o9, o10, o11, none, none, none]) (by simp), q1]
    exact ⟨z1, _, a9, a10, a11, rfl, by omega⟩
  · have ei : evI G (.rg1 (.cons (.bin .add (.lit (.int 1)) (.bin .mod (.bi .int (.cons (.idx (.varB 1) (.bin .add (.lit (.int 31)) (.varB 5))) .nil)) (.lit (.int 2)))) .nil)) [some (false, sc), some (false, nums ds), some (false, .int (many : Nat)), some (false, .tuple (tsts fs)), none, some (false, .int (k : Nat)), some (false, .str x), some (false, .str x), o8, o9, o10, o11, none, none, none] = .ok [.int (0 : Nat), .int (1 : Nat)] := by
      rw [r] at e2
      have e3 : range1D [.int (1 + 1)] = .ok [.int (0 : Nat), .int (1 : Nat)] := rfl
      clear q1 l1
      walk_at "mp"
    obtain ⟨z2, b9, b10, b11, q2, l2⟩ := bend_turn (G := G) hd hk (show 1 < 2 by decide) (many := many) (fs := fs) (x := x) (y := z1) (by omega) sc a9 a10 a11
    rw [ei, ok_st, forL_c (ρ1 := [some (false, sc), some (false, nums ds), some (false, .int (many : Nat)), some (false, .tuple (tsts fs)), none, some (false, .int (k : Nat)), some (false, .str x), some (false, .str x), some (false, .int (0 : Nat)), o9, o10, o11, none, none, none]) (by simp), q1]
    show ∃ z p8 p9 p10 p11, forL _ _ [.int (1 : Nat)] _ = _ ∧ _
    rw [forL_c (ρ1 := [some (false, sc), some (false, nums ds), some (false, .int (many : Nat)), some (false, .tuple (tsts fs)), none, some (false, .int (k : Nat)), some (false, .str x), some (false, .str z1), some (false, .int (1 : Nat)), a9, a10, a11, none, none, none]) (by simp), q2]
    exact ⟨z2, _, b9, b10, b11, rfl, by omega⟩
theorem mod7 {many : Nat} : modD (.int ((many : Int) + 1)) (.int 7) = .ok (.int (((many + 1) % 7 : Nat) : Int)) := by
  rw [mod_pos (by decide)]
  congr 2
theorem b10_run {N : Nat} (hN : 6 ≤ N) {ds : List Int} (hd : ds.length = 90) (hn : ∀ d ∈ ds, 0 ≤ d) {many k : Nat} (hm : many ≤ 6) (hk : k < 14) {fs : List (List Int)} {x : PySem.Str} (hx : x.length ≤ 400) (sc : D) (o7 o8 o9 o10 o11 : Option (Bool × D)) :
    ∃ (p7 p8 p9 p10 p11 : Option (Bool × D)), exs (run P N) c_law_b10 [some (false, sc), some (false, nums ds), some (false, .int (many : Nat)), some (false, .tuple (tsts fs)), none, some (false, .int (k : Nat)), some (false, .str x), o7, o8, o9, o10, o11, none, none, none] = .nx [some (false, sc), some (false, nums ds), some (false, .int (many : Nat)), some (false, .tuple (tsts fs)), none, some (false, .int (k : Nat)), some (false, .str x), p7, p8, p9, p10, p11, none, none, none] := by
  obtain ⟨z, p8, p9, p10, p11, q, hz⟩ := bend_loop (G := run P N) hd hn (many := many) hk (fs := fs) hx sc o8 o9 o10 o11
  refine ⟨some (false, .str z), p8, p9, p10, p11, ?_⟩
  obtain ⟨r1, a1, a2⟩ := told_read hN hz hm
  have hm7 : (many + 1) % 7 < 7 := Nat.mod_lt _ (by decide)
  obtain ⟨r2, b1, b2⟩ := told_read hN hz (many := (many + 1) % 7) (by omega)
  have f1 := ne_same (fit_encO r1)
  have f2 := ne_same (fit_encO r2)
  have m7 := mod7 (many := many)
  have s9 : ex (run P N) c_law_s9 [some (false, sc), some (false, nums ds), some (false, .int (many : Nat)), some (false, .tuple (tsts fs)), none, some (false, .int (k : Nat)), some (false, .str x), some (false, .str z), p8, p9, p10, p11, none, none, none] = .nx [some (false, sc), some (false, nums ds), some (false, .int (many : Nat)), some (false, .tuple (tsts fs)), none, some (false, .int (k : Nat)), some (false, .str x), some (false, .str z), p8, p9, p10, p11, none, none, none] := by
    unfold c_law_s9
    clear q
    walk_at "mp"
  have s0 : ex (run P N) (.set 7 (.var 6)) [some (false, sc), some (false, nums ds), some (false, .int (many : Nat)), some (false, .tuple (tsts fs)), none, some (false, .int (k : Nat)), some (false, .str x), o7, o8, o9, o10, o11, none, none, none] = .nx [some (false, sc), some (false, nums ds), some (false, .int (many : Nat)), some (false, .tuple (tsts fs)), none, some (false, .int (k : Nat)), some (false, .str x), some (false, .str x), o8, o9, o10, o11, none, none, none] := rfl
  unfold c_law_b10
  rw [exs_cons, s0, nx_seq, exs_cons, q, nx_seq, exs_cons, s9]
  rfl
theorem loop14 {N : Nat} (hN : 6 ≤ N) {ds : List Int} (hd : ds.length = 90) (hn : ∀ d ∈ ds, 0 ≤ d) {many : Nat} (hm : many ≤ 6) {fs : List (List Int)} {x : PySem.Str} (hx : x.length ≤ 400) (sc : D) : ∀ (ks : List Nat), (∀ k ∈ ks, k < 14) → ∀ (o5 o7 o8 o9 o10 o11 : Option (Bool × D)),
    ∃ (p5 p7 p8 p9 p10 p11 : Option (Bool × D)), forL (.nm 5) (exs (run P N) c_law_b10) (ks.map fun k => .int (k : Nat)) [some (false, sc), some (false, nums ds), some (false, .int (many : Nat)), some (false, .tuple (tsts fs)), none, o5, some (false, .str x), o7, o8, o9, o10, o11, none, none, none] = .nx [some (false, sc), some (false, nums ds), some (false, .int (many : Nat)), some (false, .tuple (tsts fs)), none, p5, some (false, .str x), p7, p8, p9, p10, p11, none, none, none]
  | [], _, o5, o7, o8, o9, o10, o11 => ⟨o5, o7, o8, o9, o10, o11, rfl⟩
  | k :: ks, h, o5, o7, o8, o9, o10, o11 => by
    obtain ⟨p7, p8, p9, p10, p11, q⟩ := b10_run hN hd hn hm (h k (List.mem_cons_self ..)) (fs := fs) hx sc o7 o8 o9 o10 o11
    obtain ⟨r5, r7, r8, r9, r10, r11, q2⟩ := loop14 hN hd hn hm (fs := fs) hx sc ks (fun j hj => h j (List.mem_cons_of_mem _ hj)) (some (false, .int (k : Nat))) p7 p8 p9 p10 p11
    refine ⟨r5, r7, r8, r9, r10, r11, ?_⟩
    rw [List.map_cons, forL_c (ρ1 := [some (false, sc), some (false, nums ds), some (false, .int (many : Nat)), some (false, .tuple (tsts fs)), none, some (false, .int (k : Nat)), some (false, .str x), o7, o8, o9, o10, o11, none, none, none]) (by simp), q]
    exact q2
/-! ### the given texts -/
theorem of_runC {n i : Nat} {ds : List D} {d : D} (h : runC P 1000 n i ds = .ok d) : run P n i ds = .ok d := by
  rcases run_le P 1000 n i ds with e | e
  · rw [h] at e
    cases e
  · exact e.symm.trans h
def longT : PySem.Str := Txt.join "" ((List.range 61).map fun k => nS (k : Nat) ++ newl)
def longU : PySem.Str := cutS longT none (some (-3))
theorem long_run {G : Nat → List D → Out D} {ρ : Rho} (h5 : 5 < ρ.length) : ev G (.join (.lit (.str "")) c_law_l11) ρ = .ok (.str longT) := by
  have hlen : ∀ k, k < 61 → (nS (k : Nat)).length ≤ 5 := fun k hk => nS_len ⟨by omega, by omega⟩
  have e1 : ev G c_law_l11 ρ = .ok (.list ((List.range 61).map fun k => PyData.str (nS (k : Nat) ++ newl))) := by
    refine lc_of (xs := List.range 61) (f := fun i => PyData.int (i : Nat)) (h := fun k => PyData.str (nS (k : Nat) ++ newl)) ?_ (by rw [List.length_range]; decide) fun k hk => ?_
    · have := range_nat (m := 61) (by decide)
      rw [evI_rg1, evs_cons, ev_lit, Mp.ok_bind, evs_nil, Mp.ok_bind, Mp.ok_bind]
      exact this
    · have hk := List.mem_range.mp hk
      have e2 : strF (.int (k : Nat)) = .ok (.str (nS (k : Nat))) := str_run ⟨by omega, by omega⟩
      have hl := hlen k hk
      have e3 : addD (.str (nS (k : Nat))) (.str newl) = .ok (.str (nS (k : Nat) ++ newl)) := app_str (by rw [newl_len]; omega)
      have hg : getB ((wipeR ρ [5]).set 5 (some (false, .int (k : Nat)))) 5 = .ok (.int (k : Nat)) := getB_of (b := false) (by
        rw [wipe_cons, wipe_nil, List.set_set, List.getElem?_set_self h5])
      refine turn_nm rfl ?_
      unfold newl at e3
      rw [ev_bin, ev_bi, evs_cons, ev_varB, hg, Mp.ok_bind, evs_nil, Mp.ok_bind, Mp.ok_bind, bf_strX, e2, Mp.ok_bind, ev_lit, Mp.ok_bind]
      exact e3
  have e2 : joinD (.str "") (.list (((List.range 61).map fun k => nS (k : Nat) ++ newl).map .str)) = .ok (.str longT) := join_ok (B := 6) (fun x hx => by
    obtain ⟨k, hk, rfl⟩ := List.mem_map.mp hx
    have hk := List.mem_range.mp hk
    have := hlen k hk
    rw [len_app, newl_len]
    omega) (by
    have hc : PySem.Str.length "" = 0 := by decide
    rw [List.length_map, List.length_range, hc]
    decide)
  rw [List.map_map] at e2
  exact ev_join_ok (a := "") rfl e1 e2
theorem g1 : run P 11 384 [.str longT, .int 1] = .ok (.tuple [.str "line", .int 61]) := of_runC (by kernel_rfl)
def dU : D := match runC P 1000 11 384 [.str longU, .int 1] with
  | .ok (.tuple [_, d]) => d
  | _ => .none
theorem g2 : run P 11 384 [.str longU, .int 1] = .ok (.tuple [.str "tests", dU]) := of_runC (by kernel_rfl)

theorem s12_run {ds : List Int} {many : Nat} {fs : List (List Int)} {x : PySem.Str} (sc : D) (o5 o7 o8 o9 o10 o11 : Option (Bool × D)) : ex (run P 11) c_law_s12 [some (false, sc), some (false, nums ds), some (false, .int (many : Nat)), some (false, .tuple (tsts fs)), none, o5, some (false, .str x), o7, o8, o9, o10, o11, some (false, .str longT), none, none] = .nx [some (false, sc), some (false, nums ds), some (false, .int (many : Nat)), some (false, .tuple (tsts fs)), none, o5, some (false, .str x), o7, o8, o9, o10, o11, some (false, .str longT), none, none] := by
  have a1 := g1
  have a2 := g2
  have a3 : neD (.tuple [.str "line", .int 61]) (.tuple [.str "line", .int 61]) = .ok (.bool false) := ne_same rfl
  have a4 : sliceD (.str longT) none (some (-3)) = .ok (.str longU) := by
    show (if longT.length ≤ sizeLine then Out.ok (PyData.str (cutS longT none (some (-3)))) else .stuck) = _
    exact if_pos (by decide +kernel)
  have a5 : neD (.str "tests") (.str "tests") = .ok (.bool false) := ne_same rfl
  unfold c_law_s12
  walk_at "mp"
def wrs : List PySem.Str := ["01\n", "-0\n", "1001\n", "-1001\n", "1 ,2\n", "1,2\n", "+1\n", " 1\n", "1\n1\n", "2\n1\n", "1\n\n", "99999999\n"]
def isLine : Out D → Bool
  | .ok (.tuple [.str x, .int _]) => decide (x = "line")
  | _ => false
theorem isLine_ok {o : Out D} (h : isLine o = true) : ∃ j, o = .ok (.tuple [.str "line", .int j]) := by
  unfold isLine at h
  split at h
  · rename_i x j
    rw [of_decide_eq_true h]
    exact ⟨j, rfl⟩
  · cases h
theorem wrs_all : (wrs.all fun w => isLine (runC P 1000 11 384 [.str w, .int 1])) = true := by kernel_rfl
theorem wrs_len : (wrs.all fun w => decide (w.length ≤ 5000)) = true := by kernel_rfl
theorem wr_run {w : PySem.Str} (h : w ∈ wrs) : ∃ j, run P 11 384 [.str w, .int 1] = .ok (.tuple [.str "line", .int j]) ∧ run P 11 383 [.str w, .int 1] = .ok (.tuple [.str "line", .int j]) := by
  obtain ⟨j, hj⟩ := isLine_ok (List.all_eq_true.mp wrs_all w h)
  have h1 := of_runC hj
  have hw : w.length ≤ 5000 := of_decide_eq_true (List.all_eq_true.mp wrs_len w h)
  obtain ⟨r, r1, r2⟩ := told_read (N := 11) (by decide) hw (many := 1) (by decide)
  have e : encO r = .tuple [.str "line", .int j] := Out.ok.inj (r1.symm.trans h1)
  rw [e] at r2
  exact ⟨j, h1, r2⟩
theorem s15_loop {ds : List Int} {many : Nat} {fs : List (List Int)} {x : PySem.Str} (sc : D) (o5 o7 o8 o9 o10 o11 : Option (Bool × D)) : ∀ (ws : List PySem.Str), (∀ w ∈ ws, w ∈ wrs) → ∀ o13, ∃ p13, forL (.nm 13) (exs (run P 11) c_law_b14) (ws.map .str) [some (false, sc), some (false, nums ds), some (false, .int (many : Nat)), some (false, .tuple (tsts fs)), none, o5, some (false, .str x), o7, o8, o9, o10, o11, some (false, .str longT), o13, none] = .nx [some (false, sc), some (false, nums ds), some (false, .int (many : Nat)), some (false, .tuple (tsts fs)), none, o5, some (false, .str x), o7, o8, o9, o10, o11, some (false, .str longT), p13, none]
  | [], _, o13 => ⟨o13, rfl⟩
  | w :: ws, h, o13 => by
    obtain ⟨j, a1, a2⟩ := wr_run (h w (List.mem_cons_self ..))
    have a3 : neD (.tuple [.str "line", .int j]) (.tuple [.str "line", .int j]) = .ok (.bool false) := ne_same rfl
    have a5 : neD (.str "line") (.str "line") = .ok (.bool false) := ne_same rfl
    have q : exs (run P 11) c_law_b14 [some (false, sc), some (false, nums ds), some (false, .int (many : Nat)), some (false, .tuple (tsts fs)), none, o5, some (false, .str x), o7, o8, o9, o10, o11, some (false, .str longT), some (false, .str w), none] = .nx [some (false, sc), some (false, nums ds), some (false, .int (many : Nat)), some (false, .tuple (tsts fs)), none, o5, some (false, .str x), o7, o8, o9, o10, o11, some (false, .str longT), some (false, .str w), none] := by
      unfold c_law_b14 c_law_s13
      clear h
      walk_at "mp"
    obtain ⟨p, q2⟩ := s15_loop sc o5 o7 o8 o9 o10 o11 (ds := ds) (many := many) (fs := fs) (x := x) ws (fun v hv => h v (List.mem_cons_of_mem _ hv)) (some (false, .str w))
    refine ⟨p, ?_⟩
    rw [List.map_cons, forL_c (ρ1 := [some (false, sc), some (false, nums ds), some (false, .int (many : Nat)), some (false, .tuple (tsts fs)), none, o5, some (false, .str x), o7, o8, o9, o10, o11, some (false, .str longT), some (false, .str w), none]) (by simp), q]
    exact q2
theorem s15_run {ds : List Int} {many : Nat} {fs : List (List Int)} {x : PySem.Str} (sc : D) (o5 o7 o8 o9 o10 o11 : Option (Bool × D)) : ∃ o13, ex (run P 11) c_law_s15 [some (false, sc), some (false, nums ds), some (false, .int (many : Nat)), some (false, .tuple (tsts fs)), none, o5, some (false, .str x), o7, o8, o9, o10, o11, some (false, .str longT), none, none] = .nx [some (false, sc), some (false, nums ds), some (false, .int (many : Nat)), some (false, .tuple (tsts fs)), none, o5, some (false, .str x), o7, o8, o9, o10, o11, some (false, .str longT), o13, none] := by
  obtain ⟨p, q⟩ := s15_loop sc o5 o7 o8 o9 o10 o11 (ds := ds) (many := many) (fs := fs) (x := x) wrs (fun w hw => hw) none
  refine ⟨p, ?_⟩
  rw [← q]
  rfl
theorem h1 : run P 11 384 [.none, .int 2] = .ok (.tuple [.str "line", .int 0]) := of_runC (by kernel_rfl)
theorem h2 : run P 11 384 [.int 5, .int 2] = .ok (.tuple [.str "line", .int 0]) := of_runC (by kernel_rfl)
theorem h3 (x : PySem.Str) : run P 11 384 [.list [.str x], .int 2] = .ok (.tuple [.str "line", .int 0]) := of_runC (by kernel_rfl)
theorem i1 (x : PySem.Str) : run P 11 384 [.str x, .none] = .ok (.tuple [.str "many"]) := of_runC (by kernel_rfl)
theorem i2 (x : PySem.Str) : run P 11 384 [.str x, .int (-1)] = .ok (.tuple [.str "many"]) := of_runC (by kernel_rfl)
theorem i3 (x : PySem.Str) : run P 11 384 [.str x, .int 7] = .ok (.tuple [.str "many"]) := of_runC (by kernel_rfl)
theorem i4 (x : PySem.Str) : run P 11 384 [.str x, .bool true] = .ok (.tuple [.str "many"]) := of_runC (by kernel_rfl)
theorem i5 (x : PySem.Str) : run P 11 384 [.str x, .str "a"] = .ok (.tuple [.str "many"]) := of_runC (by kernel_rfl)
theorem s18_run {ds : List Int} {many : Nat} {fs : List (List Int)} {x : PySem.Str} (sc : D) (o5 o7 o8 o9 o10 o11 o13 : Option (Bool × D)) : ex (run P 11) c_law_s18 [some (false, sc), some (false, nums ds), some (false, .int (many : Nat)), some (false, .tuple (tsts fs)), none, o5, some (false, .str x), o7, o8, o9, o10, o11, some (false, .str longT), o13, none] = .nx [some (false, sc), some (false, nums ds), some (false, .int (many : Nat)), some (false, .tuple (tsts fs)), none, o5, some (false, .str x), o7, o8, o9, o10, o11, some (false, .str longT), o13, none] := by
  have a : ev (run P 11) c_law_l16 [some (false, sc), some (false, nums ds), some (false, .int (many : Nat)), some (false, .tuple (tsts fs)), none, o5, some (false, .str x), o7, o8, o9, o10, o11, some (false, .str longT), o13, none] = .ok (.list ([PyData.none, .int 5, .list [.str x]].map fun _ => .tuple [.str "line", .int 0])) := by
    refine lc_of (xs := [PyData.none, .int 5, .list [.str x]]) (f := id) (h := fun _ => .tuple [.str "line", .int 0]) ?_ (by simp) fun d hd => ?_
    · rfl
    · refine turn_nm rfl ?_
      have hd : d = .none ∨ d = .int 5 ∨ d = .list [.str x] := by simpa using hd
      have a1 := h1
      have a2 := h2
      have a3 := h3 x
      rcases hd with rfl | rfl | rfl
      · exact a1
      · exact a2
      · exact a3
  have b : ev (run P 11) c_law_l17 [some (false, sc), some (false, nums ds), some (false, .int (many : Nat)), some (false, .tuple (tsts fs)), none, o5, some (false, .str x), o7, o8, o9, o10, o11, some (false, .str longT), o13, none] = .ok (.list ([PyData.none, .int (-1), .int 7, .bool true, .str "a"].map fun _ => .tuple [.str "many"])) := by
    refine lc_of (xs := [PyData.none, .int (-1), .int 7, .bool true, .str "a"]) (f := id) (h := fun _ => .tuple [.str "many"]) ?_ (by simp) fun d hd => ?_
    · rfl
    · refine turn_nm rfl ?_
      have hd : d = .none ∨ d = .int (-1) ∨ d = .int 7 ∨ d = .bool true ∨ d = .str "a" := by simpa using hd
      rcases hd with rfl | rfl | rfl | rfl | rfl
      · exact i1 x
      · exact i2 x
      · exact i3 x
      · exact i4 x
      · exact i5 x
  have c : ev (run P 11) (.bin .mul (.lst (.cons (.tup (.cons (.lit (.str "line")) (.cons (.lit (.int 0)) .nil))) .nil)) (.lit (.int 3))) [some (false, sc), some (false, nums ds), some (false, .int (many : Nat)), some (false, .tuple (tsts fs)), none, o5, some (false, .str x), o7, o8, o9, o10, o11, some (false, .str longT), o13, none] = .ok (.list ([PyData.none, .int 5, .list [.str x]].map fun _ => .tuple [.str "line", .int 0])) := rfl
  have d : ev (run P 11) (.bin .mul (.lst (.cons (.tup (.cons (.lit (.str "many")) .nil)) .nil)) (.lit (.int 5))) [some (false, sc), some (false, nums ds), some (false, .int (many : Nat)), some (false, .tuple (tsts fs)), none, o5, some (false, .str x), o7, o8, o9, o10, o11, some (false, .str longT), o13, none] = .ok (.list ([PyData.none, .int (-1), .int 7, .bool true, .str "a"].map fun _ => .tuple [.str "many"])) := rfl
  have e : neD (.list ([PyData.none, .int 5, .list [.str x]].map fun _ => .tuple [.str "line", .int 0])) (.list ([PyData.none, .int 5, .list [.str x]].map fun _ => .tuple [.str "line", .int 0])) = .ok (.bool false) := ne_same rfl
  have f : neD (.list ([PyData.none, .int (-1), .int 7, .bool true, .str "a"].map fun _ => .tuple [.str "many"])) (.list ([PyData.none, .int (-1), .int 7, .bool true, .str "a"].map fun _ => .tuple [.str "many"])) = .ok (.bool false) := ne_same rfl
  unfold c_law_s18
  rw [ex_ite, evT_or, evT_cmp, evT_cmp, a, b, c, d]
  clear a b c d
  generalize List.map _ _ = u at e ⊢
  generalize List.map _ _ = v at f ⊢
  walk_at "mp"
def wrongs : List D := [.none, .list [.tuple [.int 0]], .tuple [.tuple [.int 0], .tuple [.int 0, .int 0]], .tuple [.tuple [.int 0], .tuple [.int 0]], .tuple [.tuple [.int 1], .tuple [.int 0]], .tuple [.tuple [.int 1001]], .tuple [.tuple [.bool true]], .tuple [.int 0], .tuple [.tuple (List.replicate 7 (.int 0))], .tuple ((List.range 61).map fun k => .tuple [.int (k : Nat)])]
theorem l19_run {G : Nat → List D → Out D} {ρ : Rho} (h5 : 5 < ρ.length) : ev G c_law_l19 ρ = .ok (.list ((List.range 61).map fun k => .tuple [.int (k : Nat)])) := by
  refine lc_of (xs := List.range 61) (f := fun i => PyData.int (i : Nat)) (h := fun k => .tuple [.int (k : Nat)]) ?_ (by rw [List.length_range]; decide) fun k hk => ?_
  · have := range_nat (m := 61) (by decide)
    rw [evI_rg1, evs_cons, ev_lit, Mp.ok_bind, evs_nil, Mp.ok_bind, Mp.ok_bind]
    exact this
  · have hg : getV ((wipeR ρ [5]).set 5 (some (false, .int (k : Nat)))) 5 = .ok (.int (k : Nat)) := getV_of (by
      rw [wipe_cons, wipe_nil, List.set_set, List.getElem?_set_self h5])
    refine turn_nm rfl ?_
    rw [ev_tup, evs_cons, ev_var, hg]
    rfl
theorem s20_run {ds : List Int} {many : Nat} {fs : List (List Int)} {x : PySem.Str} (sc : D) (o5 o7 o8 o9 o10 o11 o13 : Option (Bool × D)) : ex (run P 11) c_law_s20 [some (false, sc), some (false, nums ds), some (false, .int (many : Nat)), some (false, .tuple (tsts fs)), none, o5, some (false, .str x), o7, o8, o9, o10, o11, some (false, .str longT), o13, none] = .nx [some (false, sc), some (false, nums ds), some (false, .int (many : Nat)), some (false, .tuple (tsts fs)), none, o5, some (false, .str x), o7, o8, o9, o10, o11, some (false, .str longT), o13, some (true, .list wrongs)] := by
  have a := l19_run (G := run P 11) (ρ := [some (false, sc), some (false, nums ds), some (false, .int (many : Nat)), some (false, .tuple (tsts fs)), none, o5, some (false, .str x), o7, o8, o9, o10, o11, some (false, .str longT), o13, none]) (by simp)
  have b : mulD (.tuple [.int 0]) (.int 7) = .ok (.tuple (List.replicate 7 (.int 0))) := rfl
  have c : ∀ a1 a2 a3 a4 a5 a6 a7 a8 a9 a10 : D, lstD [a1, a2, a3, a4, a5, a6, a7, a8, a9, a10] = .ok (.list [a1, a2, a3, a4, a5, a6, a7, a8, a9, a10]) := fun _ _ _ _ _ _ _ _ _ _ => lstD_ok (by show 10 ≤ sizeLine; decide)
  unfold c_law_s20 wrongs
  walk_at "mp"
def isT : Out D → Bool
  | .ok (.bool b) => b
  | _ => false
theorem isT_ok {o : Out D} (h : isT o = true) : o = .ok (.bool true) := by
  unfold isT at h
  split at h
  · rw [h]
  · cases h
theorem wrongs_all : (wrongs.all fun w => isT (runC P 1000 11 385 [w])) = true := by kernel_rfl
theorem l21_run {ds : List Int} {many : Nat} {fs : List (List Int)} {x : PySem.Str} (sc : D) (o5 o7 o8 o9 o10 o11 o13 : Option (Bool × D)) : ev (run P 11) c_law_l21 [some (false, sc), some (false, nums ds), some (false, .int (many : Nat)), some (false, .tuple (tsts fs)), none, o5, some (false, .str x), o7, o8, o9, o10, o11, some (false, .str longT), o13, some (true, .list wrongs)] = .ok (.list (wrongs.map fun _ => .bool true)) := by
  refine lc_of (xs := wrongs) (f := id) (h := fun _ => .bool true) ?_ (by decide) fun d hd => ?_
  · rw [List.map_id]
    rfl
  · have e := of_runC (isT_ok (List.all_eq_true.mp wrongs_all d hd))
    refine turn_nm rfl ?_
    show ev (run P 11) (.call 385 (.cons (.var 13) .nil)) _ = _
    have hd : id d = d := rfl
    rw [hd]
    clear hd
    walk_at "mp"
theorem j1 : run P 11 377 [.tuple []] = .ok (.str "") := of_runC (by kernel_rfl)
theorem j2 : run P 11 377 [.tuple [.tuple []]] = .ok (.str "\n") := of_runC (by kernel_rfl)
theorem j3 : run P 11 384 [.str "\n", .int 0] = .ok (.tuple [.str "tests", .tuple [.tuple []]]) := of_runC (by kernel_rfl)
theorem s22_run {ds : List Int} {many : Nat} {fs : List (List Int)} {x : PySem.Str} (sc : D) (o5 o7 o8 o9 o10 o11 o13 : Option (Bool × D)) : ex (run P 11) c_law_s22 [some (false, sc), some (false, nums ds), some (false, .int (many : Nat)), some (false, .tuple (tsts fs)), none, o5, some (false, .str x), o7, o8, o9, o10, o11, some (false, .str longT), o13, some (true, .list wrongs)] = .ret (.bool true) := by
  have a := l21_run (ds := ds) (many := many) (fs := fs) (x := x) sc o5 o7 o8 o9 o10 o11 o13
  have b := all_map wrongs
  have c1 := j1
  have c2 := j2
  have c3 := j3
  have d1 : eqD (.str "") (.str "") = .ok (.bool true) := eq_same rfl
  have d2 : eqD (.str "\n") (.str "\n") = .ok (.bool true) := eq_same rfl
  have d3 : eqD (.tuple [.str "tests", .tuple [.tuple []]]) (.tuple [.str "tests", .tuple [.tuple []]]) = .ok (.bool true) := eq_same rfl
  unfold c_law_s22
  walk_at "mp"
theorem holds (ns : List Int) (hl : ns.length ≤ 63) : run P 12 386 [.list (ns.map .int)] = .ok (.bool true) := by
  rw [run_at lk_law rfl]
  obtain ⟨ds, e0, hd, hn⟩ := draws_run 10 (ns := ns) (many := 90) (by decide) hl
  have q0 := drawI (ds := ds) (i := 0) (j := 0) (by omega) rfl
  have n0 := getD_nn hn 0
  generalize ds.getD 0 0 = d0 at q0 n0
  have m1 := Int.emod_nonneg d0 (show (7 : Int) ≠ 0 by decide)
  have m2 := Int.emod_lt_of_pos d0 (show (0 : Int) < 7 by decide)
  obtain ⟨many, hmany⟩ := Int.eq_ofNat_of_zero_le m1
  have hm : many ≤ 6 := by omega
  have m3 : modD (.int d0) (.int 7) = .ok (.int (many : Nat)) := by rw [mod_pos (by decide), hmany]
  obtain ⟨m, hm8, e2⟩ := l2_run (G := run P 11) hd hn hm (.list (ns.map .int))
  have ht : ∀ t ∈ rows ds many m, Tst many t := fun t ht => by
    obtain ⟨k, _, rfl⟩ := List.mem_map.mp ht
    exact rowK_tst ds many k
  have hlen : (rows ds many m).length ≤ 8 := by
    unfold rows
    rw [List.length_map, List.length_range]
    omega
  have e3 := sort_run ht (by omega)
  obtain ⟨fs, hfs⟩ : ∃ fs, fs = sortT (dedT (rows ds many m)) := ⟨_, rfl⟩
  have F : ∀ t ∈ fs, Tst many t := fun t h => ht t (sort_mem t (hfs ▸ h))
  have A : Asc fs := by rw [hfs]; exact sort_asc _
  have Z : fs.length ≤ 8 := by
    rw [hfs]
    exact Nat.le_trans (sort_len _) hlen
  rw [← hfs] at e3
  obtain ⟨x, hx⟩ : ∃ x, x = textT fs := ⟨_, rfl⟩
  have hxl : x.length ≤ 400 := by
    rw [hx]
    have := text_len hm F
    omega
  have e4 : run P 11 381 [.tuple (tsts fs)] = .ok (.str x) := by rw [hx]; exact law_text_run (by decide) hm F (by omega)
  have e5 : run P 11 377 [.tuple (tsts fs)] = .ok (.str x) := by rw [hx]; exact tests_text_run (by decide) hm F (by omega) A
  have e6 : run P 11 384 [.str x, .int (many : Nat)] = .ok (.tuple [.str "tests", .tuple (tsts fs)]) := by rw [hx]; exact told_back (by decide) hm F (by omega) A
  have f1 : neD (.str x) (.str x) = .ok (.bool false) := ne_same rfl
  have f2 : neD (.tuple [.str "tests", .tuple (tsts fs)]) (.tuple [.str "tests", .tuple (tsts fs)]) = .ok (.bool false) := ne_same (fit_encO (.inr fs))
  obtain ⟨sc, hsc⟩ : ∃ sc : D, sc = .list (ns.map .int) := ⟨_, rfl⟩
  have e0' : run P 11 17 [sc, .int 90] = .ok (nums ds) := by rw [hsc]; exact e0
  rw [← hsc] at e2 ⊢
  clear hsc e0
  have t0 : ex (run P 11) (.set 1 (.call 17 (.cons (.var 0) (.cons (.lit (.int 90)) .nil)))) [some (false, sc), none, none, none, none, none, none, none, none, none, none, none, none, none, none] = .nx [some (false, sc), some (false, nums ds), none, none, none, none, none, none, none, none, none, none, none, none, none] := by
    clear e2 e3
    walk_at "mp"
  have t1 : ex (run P 11) c_law_s0 [some (false, sc), some (false, nums ds), none, none, none, none, none, none, none, none, none, none, none, none, none] = .nx [some (false, sc), some (false, nums ds), some (false, .int (many : Nat)), none, none, none, none, none, none, none, none, none, none, none, none] := by
    unfold c_law_s0
    clear e2 e3 hmany
    walk_at "mp"
  have t2 : ex (run P 11) (.set 3 (.bi .tuple (.cons (.sortSet c_law_l2) .nil))) [some (false, sc), some (false, nums ds), some (false, .int (many : Nat)), none, none, none, none, none, none, none, none, none, none, none, none] = .nx [some (false, sc), some (false, nums ds), some (false, .int (many : Nat)), some (false, .tuple (tsts fs)), none, none, none, none, none, none, none, none, none, none, none] := by
    clear hmany
    walk_at "mp"
  have t3 : ex (run P 11) (.set 6 (.call 381 (.cons (.var 3) .nil))) [some (false, sc), some (false, nums ds), some (false, .int (many : Nat)), some (false, .tuple (tsts fs)), none, none, none, none, none, none, none, none, none, none, none] = .nx [some (false, sc), some (false, nums ds), some (false, .int (many : Nat)), some (false, .tuple (tsts fs)), none, none, some (false, .str x), none, none, none, none, none, none, none, none] := by
    clear hmany hx hfs e2 e3
    walk_at "mp"
  have t4 : ex (run P 11) c_law_s3 [some (false, sc), some (false, nums ds), some (false, .int (many : Nat)), some (false, .tuple (tsts fs)), none, none, some (false, .str x), none, none, none, none, none, none, none, none] = .nx [some (false, sc), some (false, nums ds), some (false, .int (many : Nat)), some (false, .tuple (tsts fs)), none, none, some (false, .str x), none, none, none, none, none, none, none, none] := by
    unfold c_law_s3
    clear hmany hx hfs e2 e3
    walk_at "mp"
  obtain ⟨o5, o7, o8, o9, o10, o11, t5⟩ := loop14 (N := 11) (by decide) hd hn hm (fs := fs) hxl sc (List.range 14) (fun k hk => List.mem_range.mp hk) none none none none none none
  have t5' : ex (run P 11) (.for_ (.nm 5) (.rg1 (.cons (.lit (.int 14)) .nil)) c_law_b10) [some (false, sc), some (false, nums ds), some (false, .int (many : Nat)), some (false, .tuple (tsts fs)), none, none, some (false, .str x), none, none, none, none, none, none, none, none] = .nx [some (false, sc), some (false, nums ds), some (false, .int (many : Nat)), some (false, .tuple (tsts fs)), none, o5, some (false, .str x), o7, o8, o9, o10, o11, none, none, none] := by
    have hr := range_nat (m := 14) (by decide)
    rw [ex_for, evI_rg1, evs_cons, ev_lit, Mp.ok_bind, evs_nil, Mp.ok_bind, Mp.ok_bind]
    show (range1D [.int (14 : Nat)]).st _ _ = _
    rw [hr]
    exact t5
  have t6 : ex (run P 11) (.set 12 (.join (.lit (.str "")) c_law_l11)) [some (false, sc), some (false, nums ds), some (false, .int (many : Nat)), some (false, .tuple (tsts fs)), none, o5, some (false, .str x), o7, o8, o9, o10, o11, none, none, none] = .nx [some (false, sc), some (false, nums ds), some (false, .int (many : Nat)), some (false, .tuple (tsts fs)), none, o5, some (false, .str x), o7, o8, o9, o10, o11, some (false, .str longT), none, none] := by
    rw [ex_set, long_run (by simp)]
    rfl
  have t7 := s12_run (ds := ds) (many := many) (fs := fs) (x := x) sc o5 o7 o8 o9 o10 o11
  obtain ⟨o13, t8⟩ := s15_run (ds := ds) (many := many) (fs := fs) (x := x) sc o5 o7 o8 o9 o10 o11
  have t9 := s18_run (ds := ds) (many := many) (fs := fs) (x := x) sc o5 o7 o8 o9 o10 o11 o13
  have t10 := s20_run (ds := ds) (many := many) (fs := fs) (x := x) sc o5 o7 o8 o9 o10 o11 o13
  have t11 := s22_run (ds := ds) (many := many) (fs := fs) (x := x) sc o5 o7 o8 o9 o10 o11 o13
  show (exs (run P 11) c_law.body [some (false, sc), none, none, none, none, none, none, none, none, none, none, none, none, none, none]).fin = _
  unfold c_law
  rw [exs_cons, t0, nx_seq, exs_cons, t1, nx_seq, exs_cons, t2, nx_seq, exs_cons, t3, nx_seq, exs_cons, t4, nx_seq, exs_cons, t5', nx_seq, exs_cons, t6, nx_seq, exs_cons, t7, nx_seq, exs_cons, t8, nx_seq, exs_cons, t9, nx_seq, exs_cons, t10, nx_seq, exs_cons, t11]
  rfl
end LW
namespace LQ
open PySem PySem.Spec PyProof.Rows L2
theorem P_ok : Mp.cFns 300 con fns exs cl ms = some LW.P := by kernel_rfl
abbrev R : PySem.W.OpenRow := PySem.W.OpenLaw.row PySem.Challenge.rw_pathstrue_k41_whole_texts_of_tests
def nm0 : List PySem.Str := ["PathError", "BadLine", "BadTests", "BadMany", "MOST_NAMES", "is_whole", "ascends", "MOST_INPUT", "MOST_TESTS", "are_tests", "are_inputs", "BETWEEN", "FIGURES", "MOST_FIGURES", "tests_text", "_number", "_test", "tests_of", "_law_draws", "_law_text", "_law_number", "_law_read", "_law_told", "_law_is_refused"]
def names : List PySem.Str := nm0
abbrev hk : PySem.W.Hook := Mp.hookM prg
def ob (s : PySem.W.SharedT) : He.AlD := Mp.obsMG prg (HandSHeadRun.getT s)
theorem ob_eq (s : PySem.W.SharedT) : ob s = hk.obs s.abs := Mp.obsMG_eq (HandSHeadRun.getT_eq s)
theorem run (w : World) : HandSHeadRun.RunEq R (PySem.W.view R.prog [29]) hk ob 3000 names w := by
  intro os
  kernel_rfl
end LQ
open PySem PySem.W PySem.Calls PyProof.Rows
theorem PySem.Challenge.cw_pathstrue_k41_whole_texts_of_tests_holds : PySem.Challenge.rw_pathstrue_k41_whole_texts_of_tests.Holds := by
  w_on; o_law
  refine HandSHeadRun.head_any (r := OpenLaw.row PySem.Challenge.rw_pathstrue_k41_whole_texts_of_tests) (q := view (OpenLaw.row PySem.Challenge.rw_pathstrue_k41_whole_texts_of_tests).prog [29]) (H := LQ.hk) (ob := LQ.ob) (M := 3000) (loose := LQ.names)
    (d := HandSHeadRun.topDef (OpenLaw.row PySem.Challenge.rw_pathstrue_k41_whole_texts_of_tests).prog 29) (kwd := []) LQ.ob_eq (by kernel_rfl) (fun s => by kernel_rfl) LQ.run (by kernel_rfl) (by kernel_rfl) (by kernel_rfl) (by rfl) (by first | assumption | decide +kernel) (by decide +kernel) ⟨rfl, rfl, rfl, rfl, rfl, by decide +kernel⟩ ?hw ?hc
  case hw => w_witness2
  case hc =>
    exact Mp.walk_law (l := PySem.Challenge.rw_pathstrue_k41_whole_texts_of_tests) (n := 63) (k := 12) (x := "script") (i := 386) (b := false) rfl (by decide) (by kernel_rfl) ⟨rfl, by decide, by decide⟩ LQ.P_ok (by kernel_rfl) (by kernel_rfl) (by kernel_rfl) LW.holds

