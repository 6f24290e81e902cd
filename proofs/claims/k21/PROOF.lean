import PyProof.Rows.All
import Wide.All
import OpenK.AllK
import Wide.FinOn
import HandS.ForMost
import HandS.Words
import HandS.WordsExc
import HandS.Defaults
import HandS.CallSlots
import HandS.Exc
import HandS.Set
import HandS.SetFor
import PyProof.Rows.SortStr
import HandS.Wide
import HandS.TupAny
import HandS.IsInst
import HandS.SortInts
import HandS.Style
import HandS.StrMore
import HandS.TupMul
import PyProof.StrBlock2
import KE.KSortedM
import HandS.Flow
import HandS.Zip
import HandS.ExcOwn
import HandS.NoneIn
import KE.GoesMore
import HandS.Small
import HandS.HeadEnd
import HandS.EndBits
import HandS.Head0
import HandS.Head1
import HandS.Head2
import HandS.HeadHook1
import HandS.HeadHook2
import PySem.Challenge.RW_donetwice_k21_numbers_of_forms
set_option Elab.async false
set_option linter.all false
set_option maxRecDepth 100000
set_option maxHeartbeats 4000000
/-! the set of a text's signs: its making, its size, its signs in order -/
namespace Dn
open PySem PySem.Spec PyProof.Rows L2

def keyT (e : Int × Value) : Str := match e.2 with
  | .str k _ => k
  | _ => Str.empty
def WellT (w : World) (e : Int × Value) : Prop := ∃ k u, e.2 = Value.str k u ∧ e.1 = hashStr w k
/-- the set at a holds the texts of l, each once -/
def SetT (w : World) (h : Heap) (a : Addr) (l : List Str) : Prop :=
  ∃ o es ep t, h.get? a = some o ∧ o.ExactSet ∧ o.data = .set es ep t ∧ (∀ e ∈ es.toList, WellT w e) ∧ (es.toList.map keyT).Perm l ∧ l.Nodup ∧
    l.length < scanBound ∧ t.fits es.size = true ∧ Ris t.place.toList ∧ (w.params.followText "set-order" = true ∨ t.led = true)
section
variable {P : Program} {w : World} {h h' : Heap} {a : Addr} {l : List Str}
theorem SetT.keep (r : SetT w h a l) (q : ∀ o, h.get? a = some o → h'.get? a = some o) : SetT w h' a l := by
  obtain ⟨o, es, ep, t, e, z⟩ := r
  exact ⟨o, es, ep, t, q o e, z⟩
theorem wellT_elems {xs : List (Int × Value)} (g : ∀ e ∈ xs, WellT w e) : ElemsOf (PySem.strKind P w) xs := fun e he => by
  obtain ⟨k, u, e1, e2⟩ := g e he
  rw [e1, e2]
  exact ⟨⟨k, strKind_is P w k u, rfl⟩, rfl⟩
theorem wellT_is {e : Int × Value} (g : WellT w e) (k : Str) : (PySem.strKind P w).is k e.2 = true ↔ keyT e = k := by
  obtain ⟨z, u, e1, e2⟩ := g
  have e3 : keyT e = z := by unfold keyT; rw [e1]
  rw [e1, e3]
  constructor
  · intro q
    exact (PySem.strKind P w).inj (.str z u) z k (strKind_is P w z u) q
  · rintro rfl
    exact strKind_is P w z u
theorem wellT_mem {xs : List (Int × Value)} (g : ∀ e ∈ xs, WellT w e) (k : Str) : k ∈ xs.map keyT ↔ ∃ e ∈ xs, (PySem.strKind P w).is k e.2 = true := by
  rw [List.mem_map]
  constructor
  · rintro ⟨e, he, q⟩
    exact ⟨e, he, (wellT_is (g e he) k).mpr q⟩
  · rintro ⟨e, he, q⟩
    exact ⟨e, he, (wellT_is (g e he) k).mp q⟩
theorem size_perm {es : Array (Int × Value)} {l : List Str} (p : (es.toList.map keyT).Perm l) : es.size = l.length := by
  have := p.length_eq
  rw [List.length_map, Array.length_toList] at this
  exact this
end
section
variable {P : Program} {w : World} {A : Around} {E : Value → Shared → Prop} {s : Shared} {a : Addr} {l : List Str}
theorem setT_tail {gv : Bool → Sem Unit} (hgv : ∀ (b : Bool) (s1 : Shared) (Z : Unit → Shared → Prop), Z () s1 → wpAny (model P w) A (gv b) Z E s1)
    {o : Obj} {es : Array (Int × Value)} {ep : Nat} {t : SetTable} (e0 : s.heap.get? a = some o) (e1 : o.ExactSet) (e2 : o.data = .set es ep t)
    {es1 : Array (Int × Value)} {t2 : SetTable} (g : ∀ e ∈ es1.toList, WellT w e) (p : (es1.toList.map keyT).Perm l) (nd : l.Nodup)
    (hb : l.length < scanBound) (hf : t2.fits es1.size = true) (hr : Ris t2.place.toList) (hl : w.params.followText "set-order" = true ∨ t2.led = true) {was : Bool} {R : Option Bool → Shared → Prop}
    (hR : ∀ h', Heap.SameBut a s.heap h' → SetT w h' a l → R (some true) { s with heap := h' }) :
    wpAny (model P w) A (do
        storeSet a es1 t2
        if (!was && t2.tooFull) = true then do
            gv (relayAll t2 es1 (SetTable.grown es1.size)).2.2
            storeSet a (relayAll t2 es1 (SetTable.grown es1.size)).1 (relayAll t2 es1 (SetTable.grown es1.size)).2.1
            pure (some true)
          else pure (some true)) R E s := by
  have hz : es1.size < scanBound := by rw [size_perm p]; exact hb
  refine wpAny_bind (wpAny_storeSet_of e0 e2 ?_ (fits_of_scanBound hz))
  have o1 := store_at (es' := es1) (t' := t2) e0 e2
  have b1 := Heap.SameBut.update s.heap a (Obj.putSet es1 t2)
  by_cases c : (!was && t2.tooFull) = true
  · rw [if_pos c]
    have q1 := relayAll_perm t2 es1 (SetTable.grown es1.size)
    have q2 := relayAll_fits t2 es1 (SetTable.grown es1.size)
    have q3 := relayAll_ris t2 es1 (SetTable.grown es1.size)
    have q4 := relayAll_led t2 es1 (SetTable.grown es1.size)
    revert q1 q2 q3 q4
    rcases relayAll t2 es1 (SetTable.grown es1.size) with ⟨es2, t3, gave⟩
    intro q1 q2 q3 q4
    have p2 : (es2.toList.map keyT).Perm l := (q1.map keyT).trans p
    have hz2 : es2.size < scanBound := by rw [size_perm p2]; exact hb
    refine wpAny_bind (hgv _ _ _ (wpAny_bind (wpAny_storeSet_of o1 rfl ?_ (fits_of_scanBound hz2))))
    have o2 := store_at (es' := es2) (t' := t3) o1 rfl
    exact wpAny_pure (hR _ (b1.trans (Heap.SameBut.update _ a _)) ⟨_, es2, _, t3, o2, e1, rfl, fun e he => g e (q1.mem_iff.mp he), p2, nd, hb, q2, q3, hl.imp id fun z => q4.trans z⟩)
  · rw [if_neg c]
    exact wpAny_pure (hR _ b1 ⟨_, es1, _, t2, o1, e1, rfl, g, p, nd, hb, hf, hr, hl⟩)
theorem setT_add {k : Str} {u : Tok} {Q : Bool → Shared → Prop} (R : SetT w s.heap a l) (room : l.length + 1 < scanBound)
    (hQ : ∀ h' b, Heap.SameBut a s.heap h' → SetT w h' a (if k ∈ l then l else k :: l) → Q b { s with heap := h' }) :
    wpAny (model P w) A (setAddHashed a (.str k u) ((PySem.strKind P w).hash k)) Q E s := by
  obtain ⟨o, es, ep, t, e0, e1, e2, g, p, nd, hb, hf, hr, hl⟩ := R
  have hk : (PySem.strKind P w).is k (.str k u) = true := strKind_is P w k u
  have sc : (Value.str k u).scannable = true := rfl
  have el : ElemsOf (PySem.strKind P w) es.toList := wellT_elems g
  have hz : es.size < scanBound := by rw [size_perm p]; exact hb
  unfold setAddHashed setAddHashedIn
  refine wpAny_holding (wpAny_bind (wpAny_setState_of e0 e2 hf ?_))
  dsimp only
  rw [byScan_of sc hz el]
  simp only [↓reduceIte]
  unfold setAddByScan
  refine wpAny_bind (wpAny_bind (wpAny_rule (wpAny_bind (wpAny_setScan_of hk e0 e2 hf el ?_))))
  cases fi : List.findIdx? (fun e => (PySem.strKind P w).is k e.2) es.toList with
  | some j =>
    obtain ⟨hj, pj, _⟩ := List.findIdx?_eq_some_iff_getElem.mp fi
    have hin : k ∈ l := p.mem_iff.mp ((wellT_mem (P := P) g k).mpr ⟨es.toList[j], List.getElem_mem hj, pj⟩)
    refine wpAny_pure (wpAny_pure (hQ s.heap _ (Heap.SameBut.refl a s.heap) ?_))
    rw [if_pos hin]
    exact ⟨o, es, ep, t, e0, e1, e2, g, p, nd, hb, hf, hr, hl⟩
  | none =>
    have hno : k ∉ l := fun z => by
      obtain ⟨e, he, q⟩ := (wellT_mem (P := P) g k).mp (p.mem_iff.mpr z)
      have c := List.findIdx?_eq_none_iff.mp fi e he
      rw [q] at c
      cases c
    dsimp only
    have q1 := layNew_perm t es ((PySem.strKind P w).hash k) (.str k u)
    have q2 := layNew_fits t es ((PySem.strKind P w).hash k) (.str k u)
    have q3 := layNew_ris t es ((PySem.strKind P w).hash k) (.str k u) hr
    have q4 := layNew_led t es ((PySem.strKind P w).hash k) (.str k u)
    revert q1 q2 q3 q4
    rcases layNew t es ((PySem.strKind P w).hash k) (.str k u) with ⟨es1, t1, was, gave⟩
    intro q1 q2 q3 q4
    dsimp only at q1 q2 q3 q4 ⊢
    rw [Array.toList_push] at q1
    have pc : es1.toList.Perm (((PySem.strKind P w).hash k, Value.str k u) :: es.toList) := q1.trans (List.perm_append_singleton _ _)
    have pk : (es1.toList.map keyT).Perm (k :: l) := (pc.map keyT).trans (List.Perm.cons k p)
    have g1 : ∀ e ∈ es1.toList, WellT w e := fun e he => by
      rcases List.mem_cons.mp (pc.mem_iff.mp he) with z | z
      · exact z ▸ ⟨k, u, rfl, rfl⟩
      · exact g e z
    have nd1 : (k :: l).Nodup := List.nodup_cons.mpr ⟨hno, nd⟩
    have hb1 : (k :: l).length < scanBound := room
    have ld : w.params.followText "set-order" = true ∨ t1.led = true := hl.imp id fun z => q4.trans z
    have gw : ∀ (b : Bool) (s1 : Shared) (Z : Unit → Shared → Prop), Z () s1 → wpAny (model P w) A (match b with | true => rule "set.scan.the-table-gave-way" | false => pure ()) Z E s1 :=
      fun b s1 Z q => by cases b <;> first | exact wpAny_pure q | exact wpAny_rule q
    have fin : ∀ h', Heap.SameBut a s.heap h' → SetT w h' a (k :: l) → Q true { s with heap := h' } := fun h' sb r => hQ h' true sb (by rw [if_neg hno]; exact r)
    refine wpAny_bind (gw _ _ _ ?_)
    split
    · refine wpAny_bind ?_
      rw [hashByValue_scannable 8 sc]
      refine wpAny_pure (setT_tail ?_ e0 e1 e2 g1 pk nd1 hb1 ?_ ?_ ?_ ?_)
      · intro b s1 Z q; cases b <;> first | exact wpAny_pure q | exact wpAny_rule q
      · first | (split <;> first | exact q2 | exact SetTable.fits_plain_off q2) | exact q2
      · first | (split <;> exact q3) | exact q3
      · first | (split <;> exact ld) | exact ld
      · intro h' sb r; dsimp only; exact wpAny_pure (fin h' sb r)
    · refine wpAny_bind (wpAny_pure ?_)
      simp only [↓reduceIte]
      refine setT_tail ?_ e0 e1 e2 g1 pk nd1 hb1 q2 q3 ld ?_
      · intro b s1 Z q; cases b <;> first | exact wpAny_pure q | exact wpAny_rule q
      · intro h' sb r; dsimp only; exact wpAny_pure (fin h' sb r)
end
/-! ### all signs of a text -/
def oneT (c : Nat) : Str := ⟨#[c]⟩
/-- the signs so far, the last new one first -/
def metT : List Nat → List Str → List Str
  | [], l => l
  | c :: r, l => metT r (if oneT c ∈ l then l else oneT c :: l)
theorem metT_snoc : ∀ (cs : List Nat) (c : Nat) (l : List Str), metT (cs ++ [c]) l = if oneT c ∈ metT cs l then metT cs l else oneT c :: metT cs l
  | [], c, l => rfl
  | d :: cs, c, l => by rw [List.cons_append, metT, metT_snoc cs c]; rfl
theorem metT_mem : ∀ (cs : List Nat) (l : List Str) (k : Str), k ∈ metT cs l ↔ k ∈ l ∨ ∃ c ∈ cs, k = oneT c
  | [], l, k => by simp [metT]
  | c :: cs, l, k => by
    rw [metT, metT_mem cs _ k]
    by_cases z : oneT c ∈ l
    · rw [if_pos z]
      constructor
      · rintro (q | ⟨d, hd, q⟩)
        · exact .inl q
        · exact .inr ⟨d, .tail _ hd, q⟩
      · rintro (q | ⟨d, hd, q⟩)
        · exact .inl q
        · rcases List.mem_cons.mp hd with rfl | hd
          · exact .inl (q ▸ z)
          · exact .inr ⟨d, hd, q⟩
    · rw [if_neg z, List.mem_cons]
      constructor
      · rintro ((q | q) | ⟨d, hd, q⟩)
        · exact .inr ⟨c, .head _, q⟩
        · exact .inl q
        · exact .inr ⟨d, .tail _ hd, q⟩
      · rintro (q | ⟨d, hd, q⟩)
        · exact .inl (.inr q)
        · rcases List.mem_cons.mp hd with rfl | hd
          · exact .inl (.inl q)
          · exact .inr ⟨d, hd, q⟩
theorem metT_nodup : ∀ (cs : List Nat) (l : List Str), l.Nodup → (metT cs l).Nodup
  | [], l, h => h
  | c :: cs, l, h => by
    rw [metT]
    refine metT_nodup cs _ ?_
    by_cases z : oneT c ∈ l
    · rw [if_pos z]; exact h
    · rw [if_neg z]; exact List.nodup_cons.mpr ⟨z, h⟩
theorem metT_grow : ∀ (cs : List Nat) (l : List Str), l.length ≤ (metT cs l).length
  | [], l => Nat.le_refl _
  | c :: cs, l => by
    rw [metT]
    refine Nat.le_trans ?_ (metT_grow cs _)
    split
    · exact Nat.le_refl _
    · simp
theorem metT_app (xs ys : List Nat) (l : List Str) : metT (xs ++ ys) l = metT ys (metT xs l) := by
  induction xs generalizing l with
  | nil => rfl
  | cons x xs ih => rw [List.cons_append, metT, ih]; rfl
section
variable {P : Program} {w : World} {A : Around} {E : Value → Shared → Prop} {s : Shared}
theorem setT_update {I : Addr} {fp wr : List Addr} {n : Nat} {St : Nat → Heap → Prop} {R : Result → Shared → Prop} {x : Str}
    (W : Walks P w A.in1 I fp wr n (SignAt x) St) (S : Addr) (hS : S ∉ fp) (hn : n = x.cps.size) (hb : (metT x.cps.toList []).length + 1 < scanBound) :
    ∀ (k i : Nat) (s : Shared), n - i = k → i ≤ n → St i s.heap → SetT w s.heap S (metT (x.cps.toList.take i) []) →
      (∀ h' tk, (∀ b o, b ∉ S :: wr → s.heap.get? b = some o → h'.get? b = some o) → SetT w h' S (metT x.cps.toList []) → R (.ok (.ret .none)) { s with heap := h', toks := tk }) →
      codeAny (model P w) A (.builtin "set.update.loop" ⟨[.ref S, .ref I], []⟩) R s := by
  have hw : S ∉ wr := fun z => hS (W.sub _ z)
  intro k
  induction k with
  | zero =>
    intro i s hk hi hst r hR
    have ei : i = n := by omega
    subst ei
    refine codeAny_builtin F.entry_set_update_loop ?_
    rw [Around.under_plainId F.plain_set_update_loop _]
    show wpAny _ A.in1 (pyNext (.ref I) >>= _) _ _ s
    refine wpAny_bind (W.done s _ _ hst fun h' tk hm => ?_)
    show wpAny _ A.in1 (ret Value.none) _ _ _
    rw [List.take_of_length_le (by rw [Array.length_toList]; omega)] at r
    exact wpAny_pure (hR h' tk (fun b o hb e => hm b o (fun z => hb (.tail _ z)) e) (r.keep fun o e => hm S o hw e))
  | succ k ih =>
    intro i s hk hi hst r hR
    have hlt : i < n := by omega
    refine codeAny_builtin F.entry_set_update_loop ?_
    rw [Around.under_plainId F.plain_set_update_loop _]
    show wpAny _ A.in1 (pyNext (.ref I) >>= _) _ _ s
    refine wpAny_bind (W.item i s _ _ hlt hst fun v h1 tk hP hst1 hm => ?_)
    obtain ⟨c, u, hc, rfl⟩ := hP
    have r1 : SetT w h1 S (metT (x.cps.toList.take i) []) := r.keep fun o e => hm S o hw e
    show wpAny _ A.in1 (holding [Value.str (oneT c) u] (setAdd S (.str (oneT c) u)) >>= _) _ _ _
    refine wpAny_bind (wpAny_holding ?_)
    unfold setAdd
    refine wpAny_holding (wpAny_bind ((PySem.strKind P w).pyHash (k := oneT c) (strKind_is _ _ _ _) ?_))
    have hc2 : x.cps.toList[i]? = some c := by rw [Array.getElem?_toList]; exact hc
    have es : x.cps.toList.take (i + 1) = x.cps.toList.take i ++ [c] := by rw [List.take_add_one, hc2]; rfl
    have room : (metT (x.cps.toList.take i) []).length + 1 < scanBound := by
      have q := metT_grow (x.cps.toList.drop i) (metT (x.cps.toList.take i) [])
      rw [← metT_app, List.take_append_drop] at q
      omega
    refine setT_add (s := { s with heap := h1, toks := tk + 1 }) r1 room fun h2 b sb r2 => ?_
    rw [← metT_snoc, ← es] at r2
    refine wpAny_pure ⟨plainId_quiet F.plain_set_update_loop _, ih (i + 1) _ (by omega) hlt (W.frame _ h1 _ hst1 fun b hb o e => ?_) r2 fun h3 tk3 hm3 r3 => ?_⟩
    · show h2.get? b = some o
      rw [sb.2 b (fun z : b = S => hS (z ▸ hb))]; exact e
    · refine hR h3 tk3 (fun b o hb e => hm3 b o hb ?_) r3
      show h2.get? b = some o
      rw [sb.2 b (fun z : b = S => hb (z ▸ List.mem_cons_self))]
      exact hm b o (fun z => hb (.tail _ z)) e
end
theorem sub_str_set : isSubtype (.type "str") (.type "set") = pure false := by rw [isSubtype_type]; kernel_rfl
theorem sub_str_frozenset : isSubtype (.type "str") (.type "frozenset") = pure false := by rw [isSubtype_type]; kernel_rfl
section
variable {P : Program} {w : World} {A : Around} {E : Value → Shared → Prop} {s : Shared}
abbrev freshT (w : World) : Obj := { cls := .type "set", dict := none, data := .set #[] 0 (.fresh 0 0 (!w.params.followText "set-order")) }
theorem setT_fresh {h : Heap} {a : Addr} (e : h.get? a = some (freshT w)) : SetT w h a [] :=
  ⟨freshT w, #[], 0, .fresh 0 0 (!w.params.followText "set-order"), e, ⟨rfl, rfl, rfl⟩, rfl, (fun _ z => by simp at z), (by simp), List.nodup_nil, (by decide), (by rfl), List.Pairwise.nil, by
    show _ ∨ (!w.params.followText "set-order") = true
    cases w.params.followText "set-order"
    · exact .inr rfl
    · exact .inl rfl⟩
theorem call_setT {x : Str} {t : Tok} {Q : Value → Shared → Prop} (hh : A.handled = none) (hb : (metT x.cps.toList []).length + 1 < scanBound)
    (h : ∀ (h' : Heap) (tk : Nat), SetT w h' s.heap.objs.size (metT x.cps.toList []) → (∀ b o, s.heap.get? b = some o → h'.get? b = some o) → Q (.ref s.heap.objs.size) { s with heap := h', toks := tk }) :
    wpAny (model P w) A (call (.type "set") [.str x t]) Q E s := by
  obtain ⟨c, tl, hmro⟩ := F.called_set.mro
  have hmade := F.called_set.made
  have hsub := F.called_set.sub
  refine wpAny_call (codeAny_of_tree ?_)
  show wpAny _ _ (callAny (.type "set") _) _ _ _
  refine wpAny_pure ⟨Code.quiet_builtin _ (by decide +kernel), codeAny_builtin F.entry_type_call ?_⟩
  rw [Around.under_plain (weight_type_call_type "set" [.str x t] []) rfl]
  have h1 := F.called_set.notType
  have h2 := F.called_set.canCreate
  have hct := F.typeCall_set_1 (.str x t)
  repeat (any_goals (first | assumption | wp_step))
  refine codeAny_mono (code_set_led1 (.str x t) (E := E) (Q₁ := fun ob s1 => ob = .ref s.heap.objs.size ∧ s1 = { s with heap := s.heap.push (freshT w) }) ⟨rfl, rfl⟩) fun r s1 hr => ?_
  cases r with
  | error e => exact hr
  | ok fl =>
    cases fl with
    | ret ob =>
      obtain ⟨rfl, rfl⟩ := hr
      have hS : (s.heap.push (freshT w)).get? s.heap.objs.size = some (freshT w) := Heap.get?_push_size _ rfl
      have hT : Shared.TypeIs { s with heap := s.heap.push (freshT w) } (.ref s.heap.objs.size) "set" := ⟨_, hS, rfl⟩
      have hli := F.called_set.init.lookup
      have hbi := F.called_set.init.bind (.ref s.heap.objs.size)
      repeat (any_goals (first | assumption | wp_step))
      refine codeAny_mono (codeAny_call_builtin (R := wants (fun r s2 => r = .none ∧ ∃ h' tk, s2 = { s with heap := h', toks := tk } ∧ SetT w h' s.heap.objs.size (metT x.cps.toList []) ∧
          (∀ b o, s.heap.get? b = some o → h'.get? b = some o)) E) F.called_set.init.plain F.entry_set_init (check_set_init_1 hT ?_)) fun r2 s2 hr2 => ?_
      · have z1 := sub_str_set
        have z2 := sub_str_frozenset
        have z3 : (Value.type "str" == Value.type "dict") = false := by decide
        unfold Builtin.«set.__init__» noKeywords Builtin.Frozenset.updateFrom
        generalize hPI : pyIter = PI
        wp_walk
        subst hPI
        refine wpAny_pyIter_str fun ob St W st0 => ?_
        refine wpAny_bind (wpAny_runValue ?_)
        have hh3 : A.in1.in1.in1.handled = none := by simp [hh]
        have sz : (s.heap.push (freshT w)).objs.size = s.heap.objs.size + 1 := Heap.size_push ..
        refine setT_update (W _ hh3) s.heap.objs.size (by simp [sz]) rfl hb (x.cps.size - 0) 0 _ (by omega) (Nat.zero_le _) st0 ?_ ?_
        · exact setT_fresh (Heap.get?_push_of_some _ hS)
        · intro h' tk hm r'
          show wpAny _ _ _ _ _ _
          refine wpAny_pure ?_
          show wpAny _ _ (ret Value.none) _ _ _
          refine wpAny_pure ⟨rfl, h', tk, rfl, r', fun b o e => ?_⟩
          have hb0 : b < s.heap.objs.size := Heap.lt_size e
          refine hm b o (by simp only [sz, List.mem_cons, List.not_mem_nil, or_false, not_or]; exact ⟨Nat.ne_of_lt hb0, Nat.ne_of_lt (Nat.lt_succ_of_lt hb0)⟩) (Heap.get?_push_of_some _ (Heap.get?_push_of_some _ e))
      · cases r2 with
        | error e => exact hr2
        | ok fl2 =>
          cases fl2 with
          | ret r =>
            obtain ⟨rfl, h', tk, rfl, a1, a2⟩ := hr2
            repeat (any_goals (first | assumption | wp_step))
            exact h _ _ a1 a2
          | _ => exact hr2.elim
    | _ => exact hr.elim
theorem strsT : ∀ (l : List Value), (∀ v ∈ l, ∃ k u, v = Value.str k u) → StrsAre l (l.map fun v => keyT (0, v))
  | [], _ => .nil
  | v :: l, h => by
    obtain ⟨k, u, rfl⟩ := h v (.head _)
    exact .cons k u (strsT l fun z hz => h z (.tail _ hz))
theorem sorted_setT {a : Addr} {l : List Str} {Q : Value → Shared → Prop} (R : SetT w s.heap a l) (hh : A.handled = none) (few : l.length < 64)
    (hQ : ∀ s' p (out : Array Value) (c : Nat) (ss : List Str), (∀ b o, s.heap.get? b = some o → s'.heap.get? b = some o) → s'.gens = s.gens → s'.os = s.os → s.heap.objs.size ≤ p →
      s'.heap.get? p = some (seqObj "list" out c) → StrsAre out.toList ss → ss.Perm l → sortedS ss = true → Q (.ref p) s') :
    wpAny (model P w) A (call (.builtin "sorted") [.ref a]) Q E s := by
  obtain ⟨o, es, ep, t, e0, e1, e2, g, p, nd, hb, hf, hr, hl⟩ := R
  have hz : es.size < scanBound := by rw [size_perm p]; exact hb
  refine Calls.call_function_entry kind_sorted plain_sorted entry_sorted (args_sorted1 _) ?_
  unfold Builtin.«sorted»
  refine wpAny_bind (m := checkCount "sorted" 1 1 _) (wpAny_pure ?_)
  refine wpAny_bind (collect_set (A := A.in1) hh ⟨o, e0, e1.1, e2⟩ hf hz hr hl fun s1 vs k1 z1 g1 o1 pm => ?_)
  have hvl : vs.length = l.length := by rw [pm.length_eq, List.length_map, Array.length_toList]; exact size_perm p
  have hS : StrsAre vs (vs.map fun v => keyT (0, v)) := strsT vs fun v hv => by
    obtain ⟨e, he, q⟩ := List.mem_map.mp (pm.mem_iff.mp hv)
    obtain ⟨k, u, q1, _⟩ := g e he
    exact ⟨k, u, q.symm.trans q1⟩
  have pk : (vs.map fun v => keyT (0, v)).Perm l := by
    have q := pm.map fun v => keyT (0, v)
    rw [List.map_map] at q
    exact q.trans p
  refine wpAny_bind (wpAny_newList ?_ (by rw [hvl, sizeLine_eq]; omega))
  have hoL : (s1.heap.push (seqObj "list" vs.toArray 0)).get? s1.heap.objs.size = some (seqObj "list" vs.toArray 0) := Heap.get?_push_size _ rfl
  refine wpAny_bind (wpAny_holding (wpAny_call_entry slot_list_sort ⟨_, hoL, rfl⟩ entry_list_sort (list_sort_treeK strKind_oneLt hoL hS.keysOf (fun v₁ v₂ rest e => keyKind_strs (by rw [← e]; exact hS)) (by rw [hvl]; exact few) fun st' hp hs => ⟨_, rfl, ?_⟩) (args_list_sort _)))
  obtain ⟨ss, b1, b2, b3⟩ := sorted_out_str hS hp hs
  obtain ⟨c, hc⟩ := sortedHeap_at (vs := vs) (out := (arrOf st').map (·.2)) hoL
  refine wpAny_pure ⟨_, rfl, hQ _ s1.heap.objs.size _ c ss (fun b u e => ?_) g1 o1 z1 hc b1 (b2.trans pk) b3⟩
  have q := k1 b u e
  have lt := Heap.lt_size q
  show (sortedHeap (s1.heap.push (seqObj "list" vs.toArray 0)) s1.heap.objs.size vs _).get? b = some u
  rw [sortedHeap_old (Nat.ne_of_lt lt) (by rw [size_push']; exact Nat.lt_succ_of_lt lt)]
  exact Heap.get?_push_of_some _ q
theorem len_setT {a : Addr} {l : List Str} {Q : Value → Shared → Prop} (R : SetT w s.heap a l) (h : Q (.int l.length (s.toks + 1)) { s with toks := s.toks + 1 + 1 }) :
    wpAny (model P w) A (call (.builtin "len") [.ref a]) Q E s := by
  obtain ⟨o, es, ep, t, e0, e1, e2, g, p, nd, hb, hf, hr, hl⟩ := R
  have hz := size_perm p
  refine call_len_set e0 e1 e2 hf ?_ (by rw [hz]; exact h)
  rw [hz]
  have : scanBound = 4096 := rfl
  omega
end
/-! ### over the hand layer -/
section
variable {X : Cx} {a : Expr} {ta : TE} {p p2 q pos : Pos}
/-- sorted(set(text)) -/
def tSSet (ta : TE) : TE := fun σ H Q => ta σ H fun x H1 => ∃ s : Str, x = .str s ∧ (metT s.cps.toList []).length < 64 ∧ ∀ ss p, ss.Perm (metT s.cps.toList []) → sortedS ss = true → H1 p = none → Q (.ref p) (upd H1 p (.lst (ss.map V.str)))
theorem sset_end {pins : List (Addr × Obj)} {σ : L2.St} {H : Hp} {s3 : Shared} {b : Addr} {l : List Str} {Q : VK} (hc : X.calm = true) (I : L2.Inv X pins σ H s3) (R : SetT X.w s3.heap b l) (few : l.length < 64)
    (q1 : ∀ ss p, ss.Perm l → sortedS ss = true → H p = none → Q (.ref p) (upd H p (.lst (ss.map V.str)))) : wpAny (model X.prog X.w) X.A (call (.builtin "sorted") [.ref b]) (EP X pins σ Q) X.xe s3 := by
  refine sorted_setT R (I.ok.hd hc) few fun s2 p3 out c ss k2 g2 o2 hp ho hs pm so => ?_
  have ln : (ss.map V.str).length ≤ sizeLine := by rw [List.length_map, pm.length_eq, sizeLine_eq]; omega
  have hn : H p3 = none := I.hok.fresh hp
  have J : L2.Inv X pins σ (upd H p3 (.lst (ss.map V.str))) { s3 with heap := s2.heap, gens := s2.gens, drawn := s2.drawn, toks := s2.toks } :=
    I.call (ch := []) (Un.laid k2 hp hn) (I.hok.laid k2 hp ⟨ln, out.toList, c, vals_of_strs hs, ho⟩) (by rw [g2]; exact I.bare) (fun _ z => nomatch z)
  have e : s2 = { s3 with heap := s2.heap, gens := s2.gens, drawn := s2.drawn, toks := s2.toks } := by
    cases s2
    cases s3
    cases o2
    rfl
  rw [e]
  exact ⟨.ref p3, _, J, rfl, q1 ss p3 pm so hn⟩
theorem pe_sset (hc : X.calm = true) (hg : Gl X "sorted") (hm : X.mg "sorted" = none) (hg2 : Gl X "set") (hm2 : X.mg "set" = none) (ha : PE X a ta)
    (na : starEach [a] X.env = (false, eval a X.env) :: starEach [] X.env := by rfl) : PE X (.Call (.Name "sorted" p) [.Call (.Name "set" p2) [a] [] q] [] pos) (tSSet ta) := by
  refine ⟨fun pins s σ H Q I h => ?_⟩
  refine Call_ (ld_blt I hg hm (by decide +kernel) (PyProof.Rows.callWith_builtin1 (id := "sorted") (PyProof.Rows.args_cons (Call_ (ld_blt I hg2 hm2 boot_set ?_)) rfl) rfl rfl))
  refine PyProof.Rows.callWith_type1 (PyProof.Rows.args_cons (thn (ha.run pins s σ H _ I h) fun v s1 ⟨x, H1, I1, r1, x0, q0, few, q1⟩ => PyProof.Rows.args_nil ?_) na) na rfl
  subst q0
  obtain ⟨u, rfl⟩ := r1
  refine call_setT (I1.ok.hd hc) (by have : scanBound = 4096 := rfl
                                     omega) fun h' tk R hk => PyProof.Rows.args_nil ?_
  exact sset_end hc (I1.kept fun b o e => hk b o e) R few q1
/-- len(set(text)) -/
def tLSet (ta : TE) : TE := fun σ H Q => ta σ H fun x H1 => ∃ s : Str, x = .str s ∧ (metT s.cps.toList []).length < 64 ∧ Q (.int (metT s.cps.toList []).length) H1
theorem pe_lset (hc : X.calm = true) (hg : Gl X "len") (hm : X.mg "len" = none) (hg2 : Gl X "set") (hm2 : X.mg "set" = none) (ha : PE X a ta)
    (na : starEach [a] X.env = (false, eval a X.env) :: starEach [] X.env := by rfl) : PE X (.Call (.Name "len" p) [.Call (.Name "set" p2) [a] [] q] [] pos) (tLSet ta) := by
  refine ⟨fun pins s σ H Q I h => ?_⟩
  refine Call_ (ld_blt I hg hm boot_len (PyProof.Rows.callWith_builtin1 (PyProof.Rows.args_cons (Call_ (ld_blt I hg2 hm2 boot_set ?_)) rfl) rfl rfl))
  refine PyProof.Rows.callWith_type1 (PyProof.Rows.args_cons (thn (ha.run pins s σ H _ I h) fun v s1 ⟨x, H1, I1, r1, x0, q0, few, q1⟩ => PyProof.Rows.args_nil ?_) na) na rfl
  subst q0
  obtain ⟨u, rfl⟩ := r1
  refine call_setT (I1.ok.hd hc) (by have : scanBound = 4096 := rfl
                                     omega) fun h' tk R hk => PyProof.Rows.args_nil ?_
  have I2 : Inv X pins σ H1 { s1 with heap := h', toks := tk } := I1.kept fun b o e => hk b o e
  exact len_setT R ⟨.int (metT x0.cps.toList []).length, H1, I2.tok _, ⟨_, rfl⟩, q1⟩
end
end Dn

set_option Elab.async false
set_option linter.all false
set_option maxRecDepth 100000
set_option maxHeartbeats 1000000
/-! data, cells, the relation between the abstract heap and the small evaluator's state -/
namespace Dn
open PySem L2

inductive Dv where
  | non | bl (b : Bool) | int (i : Int) | str (s : List Nat) | tup (xs : List Dv) | lst (xs : List Dv) | loc (n : Nat)
  deriving Inhabited

/-- a dict's key -/
inductive Ky where
  | int (i : Int) | str (s : List Nat)
def Ky.key : Ky → Key
  | .int i => .inl i
  | .str s => .inr ⟨s.toArray⟩
inductive Cell where
  | lst (xs : List Dv) | fz (xs : List Dv) | scr (ns : List Int) | dct (kvs : List (Ky × Dv))

structure Exn where
  cls : Str
  fld : Option (Str × Dv)

inductive Res (t : Type) where
  | ok (x : t) (h : List Cell) | exc (e : Exn) (h : List Cell) | bad

def Res.bind {t u : Type} (r : Res t) (k : t → List Cell → Res u) : Res u := match r with
  | .ok x h => k x h
  | .exc e h => .exc e h
  | .bad => .bad

@[simp] theorem Res.bind_ok {t u : Type} (x : t) (h : List Cell) (k : t → List Cell → Res u) : (Res.ok x h).bind k = k x h := rfl
@[simp] theorem Res.bind_exc {t u : Type} (e : Exn) (h : List Cell) (k : t → List Cell → Res u) : (Res.exc e h : Res t).bind k = .exc e h := rfl
@[simp] theorem Res.bind_bad {t u : Type} (k : t → List Cell → Res u) : (Res.bad : Res t).bind k = .bad := rfl

abbrev SZ : Nat := 16777216
theorem SZ_eq : sizeLine = SZ := sizeLine_eq

/-! ### representation -/
structure StrOk (s : List Nat) : Prop where
  len : s.length ≤ SZ
  sgn : ∀ c ∈ s, c < 55296
mutual
inductive Rp (K : PySem.W.Frag) (al : List Addr) (F : Hp) : V → Dv → Prop
  | non : Rp K al F .non .non
  | bl (b : Bool) : Rp K al F (.bl b) (.bl b)
  | int (i : Int) : Rp K al F (.int i) (.int i)
  | str (s : List Nat) (hs : StrOk s) : Rp K al F (.str ⟨s.toArray⟩) (.str s)
  | tup {a : Addr} {vs : List V} {ds : List Dv} : SqT K F a vs → Rps K al F vs ds → Rp K al F (.ref a) (.tup ds)
  | lst {a : Addr} {vs : List V} {ds : List Dv} : F a = some (.lst vs) → Rps K al F vs ds → Rp K al F (.ref a) (.lst ds)
  | loc {a : Addr} {n : Nat} : al[n]? = some a → Rp K al F (.ref a) (.loc n)
inductive Rps (K : PySem.W.Frag) (al : List Addr) (F : Hp) : List V → List Dv → Prop
  | nil : Rps K al F [] []
  | cons {v : V} {vs : List V} {d : Dv} {ds : List Dv} : Rp K al F v d → Rps K al F vs ds → Rps K al F (v :: vs) (d :: ds)
end

section
variable {K : PySem.W.Frag} {al al' : List Addr} {F F' : Hp}

theorem SqT.mono {a : Addr} {vs : List V} (hF : ∀ a o, F a = some o → F' a = some o) (h : SqT K F a vs) : SqT K F' a vs := by
  rcases h with (h | ⟨o, h⟩) | h
  · exact .inl (.inl (hF _ _ h))
  · exact .inl (.inr ⟨o, hF _ _ h⟩)
  · exact .inr h
theorem SqL.mono {a : Addr} {vs : List V} (hF : ∀ a o, F a = some o → F' a = some o) (h : SqL K F a vs) : SqL K F' a vs := by
  rcases h with (h | ⟨o, h⟩) | h
  · exact .inl (.inl (hF _ _ h))
  · exact .inl (.inr ⟨o, hF _ _ h⟩)
  · exact .inr h

mutual
theorem Rp.mono (hA : ∀ (n : Nat) (a : Addr), al[n]? = some a → al'[n]? = some a) (hF : ∀ a o, F a = some o → F' a = some o) : ∀ {v : V} {d : Dv}, Rp K al F v d → Rp K al' F' v d
  | _, _, .non => .non
  | _, _, .bl b => .bl b
  | _, _, .int i => .int i
  | _, _, .str s hs => .str s hs
  | _, _, .tup h hs => .tup (SqT.mono hF h) (Rps.mono hA hF hs)
  | _, _, .lst h hs => .lst (hF _ _ h) (Rps.mono hA hF hs)
  | _, _, .loc h => .loc (hA _ _ h)
theorem Rps.mono (hA : ∀ (n : Nat) (a : Addr), al[n]? = some a → al'[n]? = some a) (hF : ∀ a o, F a = some o → F' a = some o) : ∀ {vs : List V} {ds : List Dv}, Rps K al F vs ds → Rps K al' F' vs ds
  | _, _, .nil => .nil
  | _, _, .cons h hs => .cons (Rp.mono hA hF h) (Rps.mono hA hF hs)
end

theorem Rps.length : ∀ {vs : List V} {ds : List Dv}, Rps K al F vs ds → vs.length = ds.length
  | _, _, .nil => rfl
  | _, _, .cons _ hs => congrArg Nat.succ hs.length
theorem Rps.get : ∀ {vs : List V} {ds : List Dv} {i : Nat} {d : Dv}, Rps K al F vs ds → ds[i]? = some d → ∃ v, vs[i]? = some v ∧ Rp K al F v d
  | _, _, _, _, .nil, e => by simp at e
  | _, _, 0, _, .cons h _, e => by simp at e; subst e; exact ⟨_, rfl, h⟩
  | _, _, i + 1, _, .cons _ hs, e => by
    obtain ⟨v, h1, h2⟩ := hs.get (i := i) (by simpa using e)
    exact ⟨v, by simpa using h1, h2⟩
theorem Rps.getV : ∀ {vs : List V} {ds : List Dv} {i : Nat} {v : V}, Rps K al F vs ds → vs[i]? = some v → ∃ d, ds[i]? = some d ∧ Rp K al F v d
  | _, _, _, _, .nil, e => by simp at e
  | _, _, 0, _, .cons h _, e => by simp at e; subst e; exact ⟨_, rfl, h⟩
  | _, _, i + 1, _, .cons _ hs, e => by
    obtain ⟨v, h1, h2⟩ := hs.getV (i := i) (by simpa using e)
    exact ⟨v, by simpa using h1, h2⟩
theorem Rps.append : ∀ {vs ws : List V} {ds es : List Dv}, Rps K al F vs ds → Rps K al F ws es → Rps K al F (vs ++ ws) (ds ++ es)
  | _, _, _, _, .nil, s => s
  | _, _, _, _, .cons h hs, s => .cons h (hs.append s)
theorem Rps.take : ∀ {vs : List V} {ds : List Dv} (n : Nat), Rps K al F vs ds → Rps K al F (vs.take n) (ds.take n)
  | _, _, 0, _ => .nil
  | _, _, _ + 1, .nil => .nil
  | _, _, n + 1, .cons h hs => .cons h (hs.take n)
theorem Rps.drop : ∀ {vs : List V} {ds : List Dv} (n : Nat), Rps K al F vs ds → Rps K al F (vs.drop n) (ds.drop n)
  | _, _, 0, h => h
  | _, _, _ + 1, .nil => .nil
  | _, _, n + 1, .cons _ hs => hs.drop n
theorem Rps.set {v : V} {d : Dv} (h : Rp K al F v d) : ∀ {vs : List V} {ds : List Dv} (i : Nat), Rps K al F vs ds → Rps K al F (vs.set i v) (ds.set i d)
  | _, _, _, .nil => .nil
  | _, _, 0, .cons _ hs => .cons h hs
  | _, _, i + 1, .cons q hs => .cons q (Rps.set h i hs)
theorem Rps.reverse {vs : List V} {ds : List Dv} (h : Rps K al F vs ds) : Rps K al F vs.reverse ds.reverse := by
  have : ∀ {vs : List V} {ds : List Dv}, Rps K al F vs ds → ∀ {ws : List V} {es : List Dv}, Rps K al F ws es → Rps K al F (vs.reverse ++ ws) (ds.reverse ++ es) := by
    intro vs
    induction vs with
    | nil => intro ds h ws es s; cases h; exact s
    | cons v vs ih =>
      intro ds h ws es s
      cases h with
      | cons h1 h2 =>
        rw [List.reverse_cons, List.reverse_cons, List.append_assoc, List.append_assoc]
        exact ih h2 (.cons h1 s)
  have := this h .nil
  simpa using this
theorem Rps.ints : ∀ {vs : List V} {ns : List Int}, Rps K al F vs (ns.map Dv.int) → vs = ns.map V.int
  | _, [], .nil => rfl
  | _, n :: ns, .cons h hs => by
    cases h
    rw [hs.ints]; rfl
theorem Rps.of_ints : ∀ (ns : List Int), Rps K al F (ns.map V.int) (ns.map Dv.int)
  | [] => .nil
  | n :: ns => .cons (.int n) (Rps.of_ints ns)
theorem Rps.bls : ∀ {vs : List V} {ns : List Bool}, Rps K al F vs (ns.map Dv.bl) → vs = ns.map V.bl
  | _, [], .nil => rfl
  | _, n :: ns, .cons h hs => by
    cases h
    rw [hs.bls]; rfl
abbrev mkS (s : List Nat) : Str := ⟨s.toArray⟩
theorem Rps.strs : ∀ {vs : List V} {ns : List (List Nat)}, Rps K al F vs (ns.map Dv.str) → vs = ns.map (fun s => V.str (mkS s))
  | _, [], .nil => rfl
  | _, n :: ns, .cons h hs => by
    cases h
    rw [hs.strs]; rfl
theorem Rps.of_strs : ∀ (ns : List (List Nat)), (∀ s ∈ ns, StrOk s) → Rps K al F (ns.map (fun s => V.str (mkS s))) (ns.map Dv.str)
  | [], _ => .nil
  | n :: ns, h => .cons (.str n (h n (by simp))) (Rps.of_strs ns fun s hs => h s (by simp [hs]))
end

/-! ### states -/
section
variable (K : PySem.W.Frag)
def CellR (al : List Addr) (F H : Hp) (a : Addr) : Cell → Prop
  | .lst xs => F a = none ∧ ∃ vs, H a = some (.lst vs) ∧ Rps K al F vs xs
  | .fz xs => ∃ vs, F a = some (.lst vs) ∧ Rps K al F vs xs
  | .scr ns => (∃ o, F a = some o) ∧ ∃ vs, SqL K F a vs ∧ Rps K al F vs (ns.map .int)
  | .dct kvs => F a = none ∧ ∃ ws : List (Key × V), H a = some (.dK ws) ∧ ws.map (·.1) = kvs.map (fun p => p.1.key) ∧ Rps K al F (ws.map (·.2)) (kvs.map (·.2))
structure StR (al : List Addr) (F H : Hp) (h : List Cell) : Prop where
  len : al.length = h.length
  nd : al.Nodup
  sub : ∀ a o, F a = some o → H a = some o
  cell : ∀ (n : Nat) (a : Addr) (c : Cell), al[n]? = some a → h[n]? = some c → CellR K al F H a c
end

structure Ex (al : List Addr) (F H : Hp) (al' : List Addr) (F' H' : Hp) : Prop where
  app : ∃ r, al' = al ++ r ∧ ∀ a ∈ r, H a = none
  fz : ∀ a o, F a = some o → F' a = some o
  keep : ∀ a o, H a = some o → a ∉ al → H' a = some o
  org : ∀ a o, F' a = some o → F a = some o ∨ H a = none ∨ a ∈ al

section
variable {K : PySem.W.Frag} {al al1 al2 : List Addr} {F F1 F2 H H1 H2 : Hp} {h h1 h2 : List Cell}

theorem Ex.refl : Ex al F H al F H := ⟨⟨[], by simp, by simp⟩, fun _ _ e => e, fun _ _ e _ => e, fun _ _ e => .inl e⟩
theorem Ex.at (e : Ex al F H al1 F1 H1) : ∀ (n : Nat) (a : Addr), al[n]? = some a → al1[n]? = some a := fun n a q => by
  obtain ⟨r, rfl, _⟩ := e.app
  rw [List.getElem?_append_left (List.getElem?_eq_some_iff.mp q).1]; exact q
theorem Rp.ext (e : Ex al F H al1 F1 H1) {v : V} {d : Dv} (r : Rp K al F v d) : Rp K al1 F1 v d := r.mono e.at e.fz
theorem Rps.ext (e : Ex al F H al1 F1 H1) {vs : List V} {ds : List Dv} (r : Rps K al F vs ds) : Rps K al1 F1 vs ds := r.mono e.at e.fz

theorem StR.track (s : StR K al F H h) {a : Addr} (ha : a ∈ al) : ∃ o, H a = some o := by
  obtain ⟨n, hn, rfl⟩ := List.getElem_of_mem ha
  have hn' : n < h.length := by rw [← s.len]; exact hn
  have q := s.cell n _ (h[n]) (List.getElem?_eq_getElem hn) (List.getElem?_eq_getElem hn')
  cases e : h[n] with
  | lst xs => rw [e] at q; obtain ⟨_, vs, q, _⟩ := q; exact ⟨_, q⟩
  | fz xs => rw [e] at q; obtain ⟨vs, q, _⟩ := q; exact ⟨_, s.sub _ _ q⟩
  | scr xs => rw [e] at q; obtain ⟨⟨o, q⟩, _⟩ := q; exact ⟨_, s.sub _ _ q⟩
  | dct kvs => rw [e] at q; obtain ⟨_, vs, q, _⟩ := q; exact ⟨_, q⟩
theorem Ex.back (e : Ex al F H al1 F1 H1) (s1 : StR K al1 F1 H1 h1) {a : Addr} (n : H1 a = none) : H a = none := by
  cases q : H a with
  | none => rfl
  | some o =>
    by_cases ha : a ∈ al
    · obtain ⟨r, rfl, _⟩ := e.app
      obtain ⟨o', q'⟩ := s1.track (List.mem_append_left r ha)
      rw [n] at q'; cases q'
    · rw [e.keep a o q ha] at n; cases n
theorem Ex.trans (e1 : Ex al F H al1 F1 H1) (s1 : StR K al1 F1 H1 h1) (e2 : Ex al1 F1 H1 al2 F2 H2) : Ex al F H al2 F2 H2 := by
  obtain ⟨r1, h1, n1⟩ := id e1.app
  obtain ⟨r2, h2, n2⟩ := id e2.app
  have out : ∀ a o, H a = some o → a ∉ al → a ∉ al1 := fun a o q ha z => by
    rw [h1] at z
    rcases List.mem_append.mp z with z | z
    · exact ha z
    · rw [n1 a z] at q; cases q
  refine ⟨⟨r1 ++ r2, by rw [h2, h1, List.append_assoc], fun a ha => ?_⟩, fun a o q => e2.fz a o (e1.fz a o q), fun a o q ha => e2.keep a o (e1.keep a o q ha) (out a o q ha), fun a o q => ?_⟩
  · rcases List.mem_append.mp ha with z | z
    · exact n1 a z
    · exact e1.back s1 (n2 a z)
  · rcases e2.org a o q with z | z | z
    · exact e1.org a o z
    · exact .inr (.inl (e1.back s1 z))
    · rw [h1] at z
      rcases List.mem_append.mp z with z | z
      · exact .inr (.inr z)
      · exact .inr (.inl (n1 a z))

theorem CellR.mono {a : Addr} {c : Cell} (hA : ∀ (n : Nat) (a : Addr), al[n]? = some a → al1[n]? = some a) (hF : ∀ a o, F a = some o → F1 a = some o) (hn : F a = none → F1 a = none) (hH : ∀ o, F a = none → H a = some o → H1 a = some o) (q : CellR K al F H a c) : CellR K al1 F1 H1 a c := by
  cases c with
  | lst xs => obtain ⟨q0, vs, q1, q2⟩ := q; exact ⟨hn q0, vs, hH _ q0 q1, q2.mono hA hF⟩
  | fz xs => obtain ⟨vs, q1, q2⟩ := q; exact ⟨vs, hF _ _ q1, q2.mono hA hF⟩
  | scr xs => obtain ⟨⟨o, q0⟩, vs, q1, q2⟩ := q; exact ⟨⟨o, hF _ _ q0⟩, vs, SqL.mono hF q1, q2.mono hA hF⟩
  | dct kvs => obtain ⟨q0, ws, q1, q2, q3⟩ := q; exact ⟨hn q0, ws, hH _ q0 q1, q2, q3.mono hA hF⟩

/-- a new frozen object -/
theorem StR.new (s : StR K al F H h) {p : Addr} {o : HO} (hp : H p = none) : StR K al (upd F p o) (upd H p o) h := by
  have hF : F p = none := by
    cases q : F p with
    | none => rfl
    | some u => rw [s.sub _ _ q] at hp; cases hp
  refine ⟨s.len, s.nd, fun a u q => ?_, fun n a c q1 q2 => ?_⟩
  · by_cases e : a = p
    · subst e; rw [upd_same] at q ⊢; exact q
    · rw [upd_ne e] at q ⊢; exact s.sub _ _ q
  · have ne : a ≠ p := by
      rintro rfl
      obtain ⟨o', q'⟩ := s.track (List.mem_of_getElem? q1)
      rw [hp] at q'; cases q'
    refine (s.cell n a c q1 q2).mono (fun _ _ z => z) (fun b u z => ?_) (fun z => by rw [upd_ne ne]; exact z) (fun u _ z => by rw [upd_ne ne]; exact z)
    rw [upd_ne (by rintro rfl; rw [hF] at z; cases z)]; exact z
theorem Ex.new (s : StR K al F H h) {p : Addr} {o : HO} (hp : H p = none) : Ex al F H al (upd F p o) (upd H p o) := by
  have hF : F p = none := by
    cases q : F p with
    | none => rfl
    | some u => rw [s.sub _ _ q] at hp; cases hp
  refine ⟨⟨[], by simp, by simp⟩, fun a u q => ?_, fun a u q _ => ?_, fun a u q => ?_⟩
  · rw [upd_ne (by rintro rfl; rw [hF] at q; cases q)]; exact q
  · rw [upd_ne (by rintro rfl; rw [hp] at q; cases q)]; exact q
  · by_cases e : a = p
    · subst e; exact .inr (.inl hp)
    · rw [upd_ne e] at q; exact .inl q
/-- a new cell -/
theorem StR.newCell (s : StR K al F H h) {p : Addr} {o : HO} {c : Cell} (hp : H p = none) (hc : CellR K (al ++ [p]) F (upd H p o) p c) : StR K (al ++ [p]) F (upd H p o) (h ++ [c]) := by
  have hF : F p = none := by
    cases q : F p with
    | none => rfl
    | some u => rw [s.sub _ _ q] at hp; cases hp
  have npa : p ∉ al := fun z => by
    obtain ⟨o', q'⟩ := s.track z
    rw [hp] at q'; cases q'
  have hA : ∀ (n : Nat) (a : Addr), al[n]? = some a → (al ++ [p])[n]? = some a := fun n a q => by
    rw [List.getElem?_append_left (List.getElem?_eq_some_iff.mp q).1]; exact q
  refine ⟨by simp [s.len], ?_, fun a u q => ?_, fun n a d q1 q2 => ?_⟩
  · rw [List.nodup_append]
    refine ⟨s.nd, by simp, fun a ha b hb => ?_⟩
    have : b = p := by simpa using hb
    subst this
    rintro rfl; exact npa ha
  · rw [upd_ne (by rintro rfl; rw [hF] at q; cases q)]; exact s.sub _ _ q
  · by_cases hn : n < al.length
    · rw [List.getElem?_append_left hn] at q1
      rw [List.getElem?_append_left (by rw [← s.len]; exact hn)] at q2
      have ne : a ≠ p := by rintro rfl; exact npa (List.mem_of_getElem? q1)
      exact (s.cell n a d q1 q2).mono hA (fun _ _ z => z) (fun z => z) (fun u _ z => by rw [upd_ne ne]; exact z)
    · have hn' : al.length ≤ n := by omega
      rw [List.getElem?_append_right hn'] at q1
      rw [List.getElem?_append_right (by rw [← s.len]; exact hn')] at q2
      have e : n = al.length := by
        have := (List.getElem?_eq_some_iff.mp q1).1
        simp at this; omega
      subst e
      rw [s.len] at q1
      simp at q1
      rw [s.len] at q2
      simp at q2
      subst q1; subst q2
      exact hc
theorem Ex.newCell (s : StR K al F H h) {p : Addr} {o : HO} (hp : H p = none) : Ex al F H (al ++ [p]) F (upd H p o) := by
  refine ⟨⟨[p], rfl, fun a ha => by have : a = p := by simpa using ha
                                    subst this; exact hp⟩, fun _ _ q => q, fun a u q _ => ?_, fun a u q => .inl q⟩
  rw [upd_ne (by rintro rfl; rw [hp] at q; cases q)]; exact q
/-- a live cell is changed -/
theorem StR.setCell (s : StR K al F H h) {n : Nat} {a : Addr} {o : HO} {c : Cell} (ha : al[n]? = some a) (hF : F a = none) (hc : CellR K al F (upd H a o) a c) : StR K al F (upd H a o) (h.set n c) := by
  refine ⟨by simp [s.len], s.nd, fun b u q => ?_, fun m b d q1 q2 => ?_⟩
  · rw [upd_ne (by rintro rfl; rw [hF] at q; cases q)]; exact s.sub _ _ q
  · by_cases e : m = n
    · subst e
      rw [ha] at q1; cases q1
      have hl : m < h.length := by rw [← s.len]; exact (List.getElem?_eq_some_iff.mp ha).1
      rw [List.getElem?_set_self hl] at q2
      cases q2
      exact hc
    · rw [List.getElem?_set_ne (Ne.symm e)] at q2
      have ne : b ≠ a := by
        rintro rfl
        obtain ⟨i1, e1⟩ := List.getElem?_eq_some_iff.mp q1
        obtain ⟨i2, e2⟩ := List.getElem?_eq_some_iff.mp ha
        exact e ((List.getElem_inj s.nd).mp (e1.trans e2.symm))
      exact (s.cell m b d q1 q2).mono (fun _ _ z => z) (fun _ _ z => z) (fun z => z) (fun u _ z => by rw [upd_ne ne]; exact z)
theorem Ex.setCell (s : StR K al F H h) {n : Nat} {a : Addr} {o : HO} (ha : al[n]? = some a) : Ex al F H al F (upd H a o) := by
  refine ⟨⟨[], by simp, by simp⟩, fun _ _ q => q, fun b u q hb => ?_, fun _ _ q => .inl q⟩
  rw [upd_ne (by rintro rfl; exact hb (List.mem_of_getElem? ha))]; exact q
/-- a live list is frozen -/
theorem StR.freeze (s : StR K al F H h) {n : Nat} {a : Addr} {vs : List V} {xs : List Dv} (ha : al[n]? = some a) (hF : F a = none) (hH : H a = some (.lst vs)) (r : Rps K al F vs xs) : StR K al (upd F a (.lst vs)) H (h.set n (.fz xs)) := by
  have hf : ∀ b o, F b = some o → upd F a (.lst vs) b = some o := fun b o z => by
    rw [upd_ne (by rintro rfl; rw [hF] at z; cases z)]; exact z
  refine ⟨by simp [s.len], s.nd, fun b u q => ?_, fun m b d q1 q2 => ?_⟩
  · by_cases e : b = a
    · subst e; rw [upd_same] at q; cases q; exact hH
    · rw [upd_ne e] at q; exact s.sub _ _ q
  · by_cases e : m = n
    · subst e
      rw [ha] at q1; cases q1
      have hl : m < h.length := by rw [← s.len]; exact (List.getElem?_eq_some_iff.mp ha).1
      rw [List.getElem?_set_self hl] at q2
      cases q2
      exact ⟨vs, upd_same, r.mono (fun _ _ z => z) hf⟩
    · rw [List.getElem?_set_ne (Ne.symm e)] at q2
      have ne : b ≠ a := by
        rintro rfl
        obtain ⟨i1, e1⟩ := List.getElem?_eq_some_iff.mp q1
        obtain ⟨i2, e2⟩ := List.getElem?_eq_some_iff.mp ha
        exact e ((List.getElem_inj s.nd).mp (e1.trans e2.symm))
      exact (s.cell m b d q1 q2).mono (fun _ _ z => z) hf (fun z => by rw [upd_ne ne]; exact z) (fun u _ z => z)
theorem Ex.freeze {n : Nat} {a : Addr} {o : HO} (ha : al[n]? = some a) (hF : F a = none) : Ex al F H al (upd F a o) H := by
  refine ⟨⟨[], by simp, by simp⟩, fun b u q => ?_, fun b u q _ => q, fun b u q => ?_⟩
  · rw [upd_ne (by rintro rfl; rw [hF] at q; cases q)]; exact q
  · by_cases e : b = a
    · subst e; exact .inr (.inr (List.mem_of_getElem? ha))
    · rw [upd_ne e] at q; exact .inl q
/-- an object that is neither frozen nor a cell is changed (a comprehension's list) -/
theorem StR.other (s : StR K al F H h) {a : Addr} {o : HO} (ha : a ∉ al) (hF : F a = none) : StR K al F (upd H a o) h := by
  refine ⟨s.len, s.nd, fun b u q => ?_, fun m b d q1 q2 => ?_⟩
  · rw [upd_ne (by rintro rfl; rw [hF] at q; cases q)]; exact s.sub _ _ q
  · have ne : b ≠ a := by rintro rfl; exact ha (List.mem_of_getElem? q1)
    exact (s.cell m b d q1 q2).mono (fun _ _ z => z) (fun _ _ z => z) (fun z => z) (fun u _ z => by rw [upd_ne ne]; exact z)
/-- .. and then frozen -/
theorem StR.fzOther (s : StR K al F H h) {a : Addr} {o : HO} (ha : a ∉ al) (hF : F a = none) (hH : H a = some o) : StR K al (upd F a o) H h := by
  have hf : ∀ b u, F b = some u → upd F a o b = some u := fun b u z => by
    rw [upd_ne (by rintro rfl; rw [hF] at z; cases z)]; exact z
  refine ⟨s.len, s.nd, fun b u q => ?_, fun m b d q1 q2 => ?_⟩
  · by_cases e : b = a
    · subst e; rw [upd_same] at q; cases q; exact hH
    · rw [upd_ne e] at q; exact s.sub _ _ q
  · have ne : b ≠ a := by rintro rfl; exact ha (List.mem_of_getElem? q1)
    exact (s.cell m b d q1 q2).mono (fun _ _ z => z) hf (fun z => by rw [upd_ne ne]; exact z) (fun u _ z => z)
/-- cells behind n are forgotten -/
theorem StR.untrack (s : StR K al F H h) : ∀ {a : Addr}, a ∈ al → ∃ o, H a = some o := s.track
end
end Dn

set_option Elab.async false
set_option linter.all false
set_option maxRecDepth 100000
set_option maxHeartbeats 1000000
/-! the small language: its terms, its evaluator -/
namespace Dn
open PySem L2

inductive BOp where
  | add | sub | mul | fdiv | mod | pow | addN | mulN
  deriving DecidableEq
inductive COp where
  | eq | ne | lt | le | gt | ge | inn | nin
  deriving DecidableEq
inductive Ty where
  | int | str | bool | list | tuple
  deriving DecidableEq
inductive BI where
  | len | abs | int | all | any | sorted | list | listN | tuple | max | min | sum | sset | lset | isi (t : Ty) | isi2 (t u : Ty)
  deriving DecidableEq
inductive MT where
  | join | find | rfind | append | pop | split | replace
  deriving DecidableEq
inductive Tg where
  | name (i : Nat) | tup (js : List Nat)
  deriving DecidableEq

mutual
inductive ME where
  | var (i : Nat) | cst (d : Dv) | glb (j : Nat)
  | bin (op : BOp) (a b : ME) | cmp (op : COp) (a b : ME) | chain (p q : COp) (a b c : ME) | isn (pos : Bool) (a : ME)
  | neg (a : ME) | not (a : ME) | bop (conj : Bool) (es : MEs) | ite (c a b : ME)
  | tup (es : MEs) | lst (es : MEs) | new (es : MEs) | dnew
  | idx (a b : ME) | sl (a : ME) (lo hi : MO) | rev (a : ME)
  | bi (f : BI) (es : MEs) | bi1 (f : BI) (a : ME) | mt (f : MT) (o : ME) (es : MEs)
  | call (f : Nat) (es ks : MEs) (perm : List Nat)
  | comp (tg : Tg) (vs : List Nat) (it : MIt) (cond : MO) (elt : ME)
  | frz (a : ME)
inductive MEs where
  | nil | cons (e : ME) (es : MEs)
inductive MO where
  | none | some (e : ME)
inductive MIt where
  | seq (a : ME) | range1 (a : ME) | range2 (a b : ME) | enum (a : ME) | zip (a b : ME)
end

mutual
inductive MS where
  | asg (t : Tg) (m : ME) | par (js : List Nat) (es : MEs) | seti (o i v : ME) | aug (i : Nat) (op : BOp) (m : ME)
  | expr (m : ME) | ret (m : ME) | retn | ite (c : ME) (a b : MSs)
  | forr (t : Tg) (it : MIt) (body : MSs) | whil (fuel : Nat) (c : ME) (body : MSs)
  | pass | brk | cont | never
inductive MSs where
  | nil | cons (s : MS) (ss : MSs)
end

/-! ### values -/
abbrev Env1 := List (Option Dv)
abbrev Hc := List Cell

/-- the items of a list -/
def lstOf (h : Hc) : Dv → Option (List Dv)
  | .lst xs => some xs
  | .loc n => match h[n]? with
    | some (.lst xs) => some xs
    | some (.fz xs) => some xs
    | some (.scr ns) => some (ns.map .int)
    | _ => none
  | _ => none
/-- .. of one that + takes -/
def lstOwn (h : Hc) : Dv → Option (List Dv)
  | .lst xs => some xs
  | .loc n => match h[n]? with
    | some (.lst xs) => some xs
    | some (.fz xs) => some xs
    | _ => none
  | _ => none
/-- .. that stands still: what a loop may walk -/
def lstStill (h : Hc) : Dv → Option (List Dv)
  | .lst xs => some xs
  | .loc n => match h[n]? with
    | some (.fz xs) => some xs
    | some (.scr ns) => some (ns.map .int)
    | _ => none
  | _ => none

def dctOf (h : Hc) : Dv → Option (List (Ky × Dv))
  | .loc n => match h[n]? with
    | some (.dct kvs) => some kvs
    | _ => none
  | _ => none
def kyOf : Dv → Option Ky
  | .int i => some (.int i)
  | .str s => some (.str s)
  | _ => none
def beqK : Ky → Ky → Bool
  | .int i, .int j => decide (i = j)
  | .str a, .str b => a == b
  | _, _ => false
def getY (k : Ky) : List (Ky × Dv) → Option Dv
  | [] => none
  | (q, v) :: r => if beqK q k then some v else getY k r
def putY (k : Ky) (v : Dv) (kvs : List (Ky × Dv)) : List (Ky × Dv) :=
  if (getY k kvs).isSome then kvs.map (fun p => if beqK p.1 k then (p.1, v) else p) else kvs ++ [(k, v)]

def truth (h : Hc) : Dv → Option Bool
  | .non => some false
  | .bl b => some b
  | .int i => some (i != 0)
  | .str s => some (!s.isEmpty)
  | .tup xs => some (!xs.isEmpty)
  | .lst xs => some (!xs.isEmpty)
  | .loc n => match h[n]? with
    | some (.lst xs) => some (!xs.isEmpty)
    | some (.fz xs) => some (!xs.isEmpty)
    | some (.scr ns) => some (!ns.isEmpty)
    | some (.dct kvs) => some (!kvs.isEmpty)
    | none => none

mutual
def eqD : Dv → Dv → Bool
  | .non, .non => true
  | .bl a, .bl b => a == b
  | .bl a, .int i => (if a then (1 : Int) else 0) == i
  | .int i, .bl a => i == (if a then (1 : Int) else 0)
  | .int i, .int j => i == j
  | .str a, .str b => a == b
  | .tup xs, .tup ys => eqDs xs ys
  | .lst xs, .lst ys => eqDs xs ys
  | _, _ => false
def eqDs : List Dv → List Dv → Bool
  | [], [] => true
  | x :: xs, y :: ys => eqD x y && eqDs xs ys
  | _, _ => false
end
mutual
/-- its depth, none where a cell stands within -/
def depD : Dv → Option Nat
  | .tup xs => (depDs xs).map (· + 1)
  | .lst xs => (depDs xs).map (· + 1)
  | .loc _ => none
  | _ => some 0
def depDs : List Dv → Option Nat
  | [] => some 0
  | x :: xs => match depD x, depDs xs with
    | some a, some b => some (max a b)
    | _, _ => none
end
/-- a list's cell as data -/
def plainD (h : Hc) (d : Dv) : Dv := match d with
  | .loc n => match lstOf h (.loc n) with
    | some xs => .lst xs
    | none => .loc n
  | d => d
def shapeB (d : Dv) : Bool := match depD d with
  | some n => decide (n ≤ 60)
  | none => false

def flatD : Dv → Bool
  | .non => true | .bl _ => true | .int _ => true | .str _ => true | _ => false

/-- what op= takes on its left -/
def augD (op : BOp) (x : Dv) : Bool := flatD x && !(match op, x with
  | .mul, .str _ => true
  | _, _ => false)
/-- Python's index into n items -/
def atD {t : Type} (xs : List t) (i : Int) : Option t := atI xs i
def cutD {t : Type} (xs : List t) (lo hi : Option Int) : List t := (xs.drop (HT.sIx xs.length 0 lo)).take (HT.sIx xs.length xs.length hi - HT.sIx xs.length 0 lo)

def findAt (b : List Nat) : List Nat → Nat → Option Nat
  | [], k => if b.isEmpty then some k else none
  | c :: t, k => if b.isPrefixOf (c :: t) then some k else findAt b t (k + 1)
def findS (a b : List Nat) : Int := match findAt b a 0 with
  | some k => k
  | none => -1
def subS (b a : List Nat) : Bool := (findAt b a 0).isSome
def rfindAt (b : List Nat) : List Nat → Nat → Option Nat
  | [], k => if b.isEmpty then some k else none
  | c :: t, k => match rfindAt b t (k + 1) with
    | some j => some j
    | none => if b.isPrefixOf (c :: t) then some k else none
def rfindS (a b : List Nat) : Int := match rfindAt b a 0 with
  | some k => k
  | none => -1
def joinS (s : List Nat) : List (List Nat) → List Nat
  | [] => []
  | [x] => x
  | x :: y :: r => x ++ s ++ joinS s (y :: r)
def strsOf : List Dv → Option (List (List Nat))
  | [] => some []
  | .str s :: r => (strsOf r).map (s :: ·)
  | _ :: _ => none
def intsOf : List Dv → Option (List Int)
  | [] => some []
  | .int i :: r => (intsOf r).map (i :: ·)
  | _ :: _ => none
def blsOf : List Dv → Option (List Bool)
  | [] => some []
  | .bl i :: r => (blsOf r).map (i :: ·)
  | _ :: _ => none

def insI (x : Int) : List Int → List Int
  | [] => [x]
  | y :: r => if x ≤ y then x :: y :: r else y :: insI x r
def sortI : List Int → List Int
  | [] => []
  | x :: r => insI x (sortI r)
def leS : List Nat → List Nat → Bool
  | [], _ => true
  | _ :: _, [] => false
  | a :: s, b :: t => if a < b then true else if b < a then false else leS s t
def insS (x : List Nat) : List (List Nat) → List (List Nat)
  | [] => [x]
  | y :: r => if leS x y then x :: y :: r else y :: insS x r
def sortS : List (List Nat) → List (List Nat)
  | [] => []
  | x :: r => insS x (sortS r)
/-- the signs of a text, each once, ascending -/
def insN (x : Nat) : List Nat → List Nat
  | [] => [x]
  | y :: r => if x < y then x :: y :: r else if x = y then y :: r else y :: insN x r
def signs : List Nat → List Nat
  | [] => []
  | x :: r => insN x (signs r)

/-! ### operators -/
def SZok (n : Nat) : Bool := Nat.ble n SZ
def mulOk (i j : Int) : Bool := decide (i.natAbs < 2 ^ 64) || decide (j.natAbs < 2 ^ 64) || (decide (i.natAbs < 2 ^ 100000) && decide (j.natAbs < 2 ^ 100000))
def divOk (j : Int) : Bool := decide (0 < j) && decide (j.natAbs < 2 ^ 8000)
def binD (op : BOp) (x y : Dv) (h : Hc) : Res Dv := match op, x, y with
  | .add, .int i, .int j => .ok (.int (i + j)) h
  | .sub, .int i, .int j => .ok (.int (i - j)) h
  | .mul, .int i, .int j => if mulOk i j then .ok (.int (i * j)) h else .bad
  | .fdiv, .int i, .int j => if divOk j then .ok (.int (i / j)) h else .bad
  | .mod, .int i, .int j => if 0 < j then .ok (.int (i % j)) h else .bad
  | .pow, .int i, .int j => if 0 ≤ j ∧ j ≤ 1000000 ∧ i.natAbs < 2 ^ 64 then .ok (.int (i ^ j.toNat)) h else .bad
  | .addN, x, y => match lstOwn h x, lstOwn h y with
    | some xs, some ys => if SZok (xs.length + ys.length) then .ok (.loc h.length) (h ++ [.lst (xs ++ ys)]) else .bad
    | _, _ => .bad
  | .add, .str a, .str b => if SZok (a.length + b.length) then .ok (.str (a ++ b)) h else .bad
  | .add, .tup a, .tup b => if SZok (a.length + b.length) then .ok (.tup (a ++ b)) h else .bad
  | .mul, .str a, .int k => if -(2 ^ 62) ≤ k ∧ k < 2 ^ 62 ∧ a.length * k.toNat ≤ SZ then .ok (.str (List.replicate k.toNat a).flatten) h else .bad
  | .mulN, x, .int k => match lstOwn h x with
    | some xs => if -(2 ^ 62) ≤ k ∧ k < 2 ^ 62 ∧ xs.length * k.toNat ≤ SZ then .ok (.loc h.length) (h ++ [.lst (List.replicate k.toNat xs).flatten]) else .bad
    | none => .bad
  | .mul, .tup a, .int k => if a.isEmpty = false ∧ 2 ≤ k ∧ k ≤ 1000 ∧ a.length ≤ 1000 then .ok (.tup (List.replicate k.toNat a).flatten) h else .bad
  | .mul, x, .int k => match lstOwn h x with
    | some xs => if -(2 ^ 62) ≤ k ∧ k < 2 ^ 62 ∧ xs.length * k.toNat ≤ SZ then .ok (.lst (List.replicate k.toNat xs).flatten) h else .bad
    | none => .bad
  | .add, x, y => match lstOwn h x, lstOwn h y with
    | some xs, some ys => if SZok (xs.length + ys.length) then .ok (.lst (xs ++ ys)) h else .bad
    | _, _ => .bad
  | _, _, _ => .bad
def ltS (a b : List Nat) : Bool := decide (a < b)
def cmpS (op : COp) (x y : Dv) (h : Hc) : Res Dv := match op, x, y with
  | .lt, .int i, .int j => .ok (.bl (decide (i < j))) h
  | .le, .int i, .int j => .ok (.bl (decide (i ≤ j))) h
  | .gt, .int i, .int j => .ok (.bl (decide (j < i))) h
  | .ge, .int i, .int j => .ok (.bl (decide (j ≤ i))) h
  | .lt, .str a, .str b => .ok (.bl (ltS a b)) h
  | .le, .str a, .str b => .ok (.bl (!ltS b a)) h
  | .gt, .str a, .str b => .ok (.bl (ltS b a)) h
  | .ge, .str a, .str b => .ok (.bl (!ltS a b)) h
  | .eq, x, y => if shapeB (plainD h x) && shapeB (plainD h y) then .ok (.bl (eqD (plainD h x) (plainD h y))) h else .bad
  | .ne, x, y => if shapeB (plainD h x) && shapeB (plainD h y) then .ok (.bl (!eqD (plainD h x) (plainD h y))) h else .bad
  | .inn, .str b, .str a => .ok (.bl (subS b a)) h
  | .nin, .str b, .str a => .ok (.bl (!subS b a)) h
  | .inn, x, .tup ys => if flatD x && ys.all flatD then .ok (.bl (ys.any fun y => eqD y x)) h else .bad
  | .nin, x, .tup ys => if flatD x && ys.all flatD then .ok (.bl (!ys.any fun y => eqD y x)) h else .bad
  | .inn, x, y => match lstOf h y with
    | some ys => if flatD x && ys.all flatD then .ok (.bl (ys.any fun y => eqD y x)) h else .bad
    | none => .bad
  | .nin, x, y => match lstOf h y with
    | some ys => if flatD x && ys.all flatD then .ok (.bl (!ys.any fun y => eqD y x)) h else .bad
    | none => .bad
  | _, _, _ => .bad
def cmpD (op : COp) (x y : Dv) (h : Hc) : Res Dv := match op, dctOf h y, kyOf x with
  | .inn, some kvs, some k => .ok (.bl (getY k kvs).isSome) h
  | .nin, some kvs, some k => .ok (.bl (!(getY k kvs).isSome)) h
  | op, _, _ => cmpS op x y h
def negD (x : Dv) (h : Hc) : Res Dv := match x with
  | .int i => .ok (.int (-i)) h
  | _ => .bad
def idxS (x i : Dv) (h : Hc) : Res Dv := match x, i with
  | .str s, .int i => match atD s i with
    | some c => .ok (.str [c]) h
    | none => .bad
  | .tup xs, .int i => match atD xs i with
    | some c => .ok c h
    | none => .bad
  | x, .int i => match lstOf h x with
    | some xs => (match atD xs i with
      | some c => .ok c h
      | none => .bad)
    | none => .bad
  | _, _ => .bad
def idxD (x i : Dv) (h : Hc) : Res Dv := match dctOf h x with
  | some kvs => (match kyOf i with
    | some k => (match getY k kvs with
      | some v => .ok v h
      | none => .bad)
    | none => .bad)
  | none => idxS x i h
def slD (x : Dv) (lo hi : Option Int) (h : Hc) : Res Dv := match x with
  | .str s => .ok (.str (cutD s lo hi)) h
  | .tup xs => .ok (.tup (cutD xs lo hi)) h
  | x => match lstOf h x with
    | some xs => .ok (.lst (cutD xs lo hi)) h
    | none => .bad
def revD (x : Dv) (h : Hc) : Res Dv := match x with
  | .str s => .ok (.str s.reverse) h
  | x => match lstOf h x with
    | some xs => .ok (.lst xs.reverse) h
    | none => .bad
def isTy (h : Hc) : Ty → Dv → Option Bool
  | t, .loc n => match h[n]? with
    | some (.dct _) => some false
    | some _ => some (t == .list)
    | none => none
  | .int, .int _ => some true
  | .int, .bl _ => some true
  | .bool, .bl _ => some true
  | .str, .str _ => some true
  | .list, .lst _ => some true
  | .tuple, .tup _ => some true
  | _, _ => some false
def lenD (h : Hc) : Dv → Option Nat
  | .str s => some s.length
  | .tup xs => some xs.length
  | .lst xs => some xs.length
  | .loc n => match h[n]? with
    | some (.lst xs) => some xs.length
    | some (.fz xs) => some xs.length
    | some (.scr ns) => some ns.length
    | some (.dct kvs) => some kvs.length
    | none => none
  | _ => none
def biD (f : BI) (vs : List Dv) (h : Hc) : Res Dv := match f, vs with
  | .len, [x] => match lenD h x with
    | some n => .ok (.int n) h
    | none => .bad
  | .abs, [.int i] => .ok (.int (if i < 0 then -i else i)) h
  | .int, [.int i] => .ok (.int i) h
  | .int, [.bl b] => .ok (.int (if b then 1 else 0)) h
  | .all, [x] => match (lstOf h x).bind blsOf with
    | some bs => .ok (.bl (bs.all id)) h
    | none => .bad
  | .any, [x] => match (lstOf h x).bind blsOf with
    | some bs => .ok (.bl (bs.any id)) h
    | none => .bad
  | .isi t, [x] => match isTy h t x with
    | some b => .ok (.bl b) h
    | none => .bad
  | .isi2 t u, [x] => match isTy h t x, isTy h u x with
    | some b, some c => .ok (.bl (b || c)) h
    | _, _ => .bad
  | .list, [.str s] => .ok (.lst (s.map fun c => .str [c])) h
  | .list, [.tup xs] => .ok (.lst xs) h
  | .list, [x] => match lstOf h x with
    | some xs => .ok (.lst xs) h
    | none => .bad
  | .listN, [.tup xs] => .ok (.loc h.length) (h ++ [.lst xs])
  | .listN, [x] => match lstOf h x with
    | some xs => .ok (.loc h.length) (h ++ [.lst xs])
    | none => .bad
  | .tuple, [.tup xs] => .ok (.tup xs) h
  | .tuple, [x] => match lstOf h x with
    | some xs => .ok (.tup xs) h
    | none => .bad
  | .sorted, [x] => match lstOf h x with
    | some xs => (match intsOf xs, strsOf xs with
      | some ns, _ => .ok (.lst ((sortI ns).map .int)) h
      | _, some ss => if ss.length < 64 then .ok (.lst ((sortS ss).map .str)) h else .bad
      | _, _ => .bad)
    | none => .bad
  | .sset, [.str s] => if (signs s).length < 64 then .ok (.lst ((signs s).map fun c => .str [c])) h else .bad
  | .lset, [.str s] => if (signs s).length < 64 then .ok (.int (signs s).length) h else .bad
  | .sum, [x] => match (lstOf h x).bind intsOf with
    | some ns => .ok (.int ns.sum) h
    | none => .bad
  | .max, [x] => match (lstOf h x).bind intsOf with
    | some (n :: ns) => .ok (.int (ns.foldl max n)) h
    | _ => .bad
  | .min, [x] => match (lstOf h x).bind intsOf with
    | some (n :: ns) => .ok (.int (ns.foldl min n)) h
    | _ => .bad
  | _, _ => .bad
def mtD (f : MT) (o : Dv) (vs : List Dv) (h : Hc) : Res Dv := match f, o, vs with
  | .join, .str s, [.tup xs] => match strsOf xs with
    | some ss => if SZok ((ss.map List.length).sum + ss.length * s.length) then .ok (.str (joinS s ss)) h else .bad
    | none => .bad
  | .join, .str s, [x] => match (lstOf h x).bind strsOf with
    | some ss => if SZok ((ss.map List.length).sum + ss.length * s.length) then .ok (.str (joinS s ss)) h else .bad
    | none => .bad
  | .find, .str a, [.str b] => .ok (.int (findS a b)) h
  | .rfind, .str a, [.str b] => .ok (.int (rfindS a b)) h
  | .append, .loc n, [y] => match h[n]? with
    | some (.lst xs) => if SZok (xs.length + 1) then .ok .non (h.set n (.lst (xs ++ [y]))) else .bad
    | _ => .bad
  | .pop, .loc n, [] => match h[n]? with
    | some (.lst xs) => (match xs.getLast? with
      | some y => .ok y (h.set n (.lst xs.dropLast))
      | none => .bad)
    | _ => .bad
  | _, _, _ => .bad
/-- whose method it is -/
def mtOk (f : MT) (x : Dv) (h : Hc) : Bool := match f, x with
  | .append, .loc n => (lstOf h (.loc n)).isSome
  | .pop, .loc n => (lstOf h (.loc n)).isSome
  | .append, _ => false
  | .pop, _ => false
  | _, .str _ => true
  | _, _ => false
/-- a live list is frozen -/
def frzD (x : Dv) (h : Hc) : Res Dv := match x with
  | .loc n => match h[n]? with
    | some (.lst xs) => .ok (.lst xs) (h.set n (.fz xs))
    | some (.fz xs) => .ok (.lst xs) h
    | _ => .bad
  | _ => .bad
/-- o[i] = v -/
def setS (o i v : Dv) (h : Hc) : Res Unit := match o, i with
  | .loc n, .int k => match h[n]? with
    | some (.lst xs) => (match ixN xs.length k with
      | some j => .ok () (h.set n (.lst (xs.set j v)))
      | none => .bad)
    | _ => .bad
  | _, _ => .bad
def setD (o i v : Dv) (h : Hc) : Res Unit := match o, dctOf h o with
  | .loc n, some kvs => (match kyOf i with
    | some k => if SZok (kvs.length + 1) then .ok () (h.set n (.dct (putY k v kvs))) else .bad
    | none => .bad)
  | _, _ => setS o i v h
def tgD (t : Tg) (x : Dv) (s : Env1) : Option Env1 := match t, x with
  | .name i, x => some (s.set i (some x))
  | .tup js, .tup xs => if xs.length = js.length then some ((js.zip xs).foldl (fun s p => s.set p.1 (some p.2)) s) else none
  | .tup js, .lst xs => if xs.length = js.length then some ((js.zip xs).foldl (fun s p => s.set p.1 (some p.2)) s) else none
  | _, _ => none
def wipeD (s : Env1) : List Nat → Env1
  | [] => s
  | v :: vs => (wipeD s vs).set v none
/-- what is walked -/
def seqD (x : Dv) (h : Hc) : Res (List Dv) := match x with
  | .str s => .ok (s.map fun c => .str [c]) h
  | .tup xs => .ok xs h
  | x => match lstStill h x with
    | some xs => .ok xs h
    | none => .bad
def rangeL (lo : Int) : Nat → List Dv
  | 0 => []
  | n + 1 => .int lo :: rangeL (lo + 1) n
def rangeD (lo hi : Int) (h : Hc) : Res (List Dv) := if -(2 ^ 62) ≤ lo ∧ lo < 2 ^ 62 ∧ -(2 ^ 62) ≤ hi ∧ hi < 2 ^ 62 then .ok (rangeL lo (hi - lo).toNat) h else .bad
def enumL (k : Int) : List Dv → List Dv
  | [] => []
  | x :: r => .tup [.int k, x] :: enumL (k + 1) r
/-- what enumerate walks -/
def enumD (x : Dv) (h : Hc) : Option (List Dv) := match x with
  | .str l => some (l.map fun c => .str [c])
  | x => lstStill h x
def zipL : List Dv → List Dv → List Dv
  | x :: r, y :: q => .tup [x, y] :: zipL r q
  | _, _ => []

def zipD (x y : Dv) (h : Hc) : Res (List Dv) := match x, y with
  | .tup xs, .tup ys => .ok (zipL xs ys) h
  | x, y => match lstStill h x, lstStill h y with
    | some xs, some ys => .ok (zipL xs ys) h
    | _, _ => .bad
def Res.calm {t : Type} : Res t → Res t
  | .ok x h => .ok x h
  | _ => .bad
@[simp] theorem Res.calm_ok {t : Type} (x : t) (h : Hc) : (Res.ok x h).calm = .ok x h := rfl
@[simp] theorem Res.calm_exc {t : Type} (x : Exn) (h : Hc) : (Res.exc x h : Res t).calm = .bad := rfl
@[simp] theorem Res.calm_bad {t : Type} : (Res.bad : Res t).calm = .bad := rfl

def compL (f : Dv → Hc → Res (Option Dv)) : List Dv → Hc → Res (List Dv)
  | [], h => .ok [] h
  | x :: xs, h => (f x h).calm.bind fun y h1 => (compL f xs h1).bind fun ys h2 => .ok (match y with | some y => y :: ys | none => ys) h2

inductive Fl where
  | next (s : Env1) | ret (v : Dv) | brk (s : Env1) | cont (s : Env1)
def forL (f : Dv → Env1 → Hc → Res Fl) : List Dv → Env1 → Hc → Res Fl
  | [], s, h => .ok (.next s) h
  | x :: xs, s, h => (f x s h).bind fun r h1 => match r with
    | .next s1 => forL f xs s1 h1
    | .cont s1 => forL f xs s1 h1
    | .brk s1 => .ok (.next s1) h1
    | .ret v => .ok (.ret v) h1
def whileL (c : Env1 → Hc → Res Bool) (f : Env1 → Hc → Res Fl) : Nat → Env1 → Hc → Res Fl
  | 0, _, _ => .bad
  | n + 1, s, h => (c s h).bind fun b h1 => if b then (f s h1).bind fun r h2 => match r with
      | .next s1 => whileL c f n s1 h2
      | .cont s1 => whileL c f n s1 h2
      | .brk s1 => .ok (.next s1) h2
      | .ret v => .ok (.ret v) h2
    else .ok (.next s) h1

def optI : Option Dv → Option (Option Int)
  | none => some none
  | some (.int i) => some (some i)
  | some _ => none
def permD (vs : List Dv) : List Nat → Option (List Dv)
  | [] => some []
  | j :: js => match vs[j]?, permD vs js with
    | some v, some r => some (v :: r)
    | _, _ => none
def truthR (x : Dv) (h : Hc) : Res Bool := match truth h x with
  | some b => .ok b h
  | none => .bad

/-! ### the evaluator -/
section
variable (cl : Nat → List Dv → Hc → Res Dv) (gl : List Dv)
mutual
def ev : ME → Env1 → Hc → Res Dv
  | .var i, s, h => match s[i]? with
    | some (some d) => .ok d h
    | _ => .bad
  | .cst d, _, h => .ok d h
  | .glb j, _, h => match gl[j]? with
    | some d => .ok d h
    | none => .bad
  | .bin op a b, s, h => (ev a s h).bind fun x h1 => (ev b s h1).bind fun y h2 => binD op x y h2
  | .cmp op a b, s, h => (ev a s h).bind fun x h1 => (ev b s h1).bind fun y h2 => cmpD op x y h2
  | .chain p q a b c, s, h => (ev a s h).bind fun x h1 => (ev b s h1).bind fun y h2 => (cmpD p x y h2).bind fun z h3 => match z with
    | .bl true => (ev c s h3).bind fun w h4 => cmpD q y w h4
    | .bl false => .ok (.bl false) h3
    | _ => .bad
  | .isn pos a, s, h => (ev a s h).bind fun x h1 => .ok (.bl (match x with | .non => pos | _ => !pos)) h1
  | .neg a, s, h => (ev a s h).bind fun x h1 => negD x h1
  | .not a, s, h => (ev a s h).bind fun x h1 => (truthR x h1).bind fun b h2 => .ok (.bl (!b)) h2
  | .bop conj es, s, h => evB conj es s h
  | .ite c a b, s, h => (ev c s h).bind fun x h1 => (truthR x h1).bind fun t h2 => if t then ev a s h2 else ev b s h2
  | .tup es, s, h => (evs es s h).bind fun vs h1 => if SZok vs.length then .ok (.tup vs) h1 else .bad
  | .lst es, s, h => (evs es s h).bind fun vs h1 => if SZok vs.length then .ok (.lst vs) h1 else .bad
  | .new es, s, h => (evs es s h).bind fun vs h1 => if SZok vs.length then .ok (.loc h1.length) (h1 ++ [.lst vs]) else .bad
  | .dnew, _, h => .ok (.loc h.length) (h ++ [.dct []])
  | .idx a b, s, h => (ev a s h).bind fun x h1 => (ev b s h1).bind fun y h2 => idxD x y h2
  | .sl a lo hi, s, h => (ev a s h).bind fun x h1 => (evO lo s h1).bind fun l h2 => (evO hi s h2).bind fun u h3 => slD x l u h3
  | .rev a, s, h => (ev a s h).bind fun x h1 => revD x h1
  | .bi f es, s, h => (evs es s h).bind fun vs h1 => biD f vs h1
  | .bi1 f a, s, h => (ev a s h).bind fun x h1 => biD f [x] h1
  | .mt f o es, s, h => (ev o s h).bind fun x h1 => if mtOk f x h1 then (evs es s h1).bind fun vs h2 => mtD f x vs h2 else .bad
  | .call f es ks perm, s, h => (evs es s h).bind fun vs h1 => (evs ks s h1).bind fun ws h2 => match permD (vs ++ ws) perm with
    | some zs => cl f zs h2
    | none => .bad
  | .comp tg vs it cond elt, s, h => (evI it s h).bind fun items h1 => (compL (fun x h2 => match tgD tg x (wipeD s vs) with
      | some s1 => (evC cond s1 h2).bind fun b h3 => if b then (ev elt s1 h3).bind fun y h4 => .ok (some y) h4 else .ok none h3
      | none => .bad) items h1).bind fun ys h2 => if SZok ys.length then .ok (.lst ys) h2 else .bad
  | .frz a, s, h => (ev a s h).bind fun x h1 => frzD x h1
def evs : MEs → Env1 → Hc → Res (List Dv)
  | .nil, _, h => .ok [] h
  | .cons e es, s, h => (ev e s h).bind fun x h1 => (evs es s h1).bind fun xs h2 => .ok (x :: xs) h2
def evB : Bool → MEs → Env1 → Hc → Res Dv
  | _, .nil, _, _ => .bad
  | conj, .cons e es, s, h => match es with
    | .nil => ev e s h
    | .cons _ _ => (ev e s h).bind fun x h1 => (truthR x h1).bind fun b h2 => if b == conj then evB conj es s h2 else .ok x h2
def evO : MO → Env1 → Hc → Res (Option Int)
  | .none, _, h => .ok none h
  | .some e, s, h => (ev e s h).bind fun x h1 => match x with
    | .int i => .ok (some i) h1
    | _ => .bad
def evC : MO → Env1 → Hc → Res Bool
  | .none, _, h => .ok true h
  | .some e, s, h => (ev e s h).bind fun x h1 => truthR x h1
def evI : MIt → Env1 → Hc → Res (List Dv)
  | .seq a, s, h => (ev a s h).bind fun x h1 => seqD x h1
  | .range1 a, s, h => (ev a s h).bind fun x h1 => match x with
    | .int j => rangeD 0 j h1
    | _ => .bad
  | .range2 a b, s, h => (ev a s h).bind fun x h1 => (ev b s h1).bind fun y h2 => match x, y with
    | .int i, .int j => rangeD i j h2
    | _, _ => .bad
  | .enum a, s, h => (ev a s h).bind fun x h1 => match enumD x h1 with
    | some xs => .ok (enumL 0 xs) h1
    | none => .bad
  | .zip a b, s, h => (ev a s h).bind fun x h1 => (ev b s h1).bind fun y h2 => zipD x y h2
end
mutual
def ex : MS → Env1 → Hc → Res Fl
  | .asg t m, s, h => (ev cl gl m s h).bind fun x h1 => match tgD t x s with
    | some s1 => .ok (.next s1) h1
    | none => .bad
  | .par js es, s, h => (evs cl gl es s h).bind fun vs h1 => if vs.length = js.length then .ok (.next ((js.zip vs).foldl (fun s p => s.set p.1 (some p.2)) s)) h1 else .bad
  | .seti o i v, s, h => (ev cl gl v s h).bind fun z h1 => (ev cl gl o s h1).bind fun x h2 => (ev cl gl i s h2).bind fun y h3 => (setD x y z h3).bind fun _ h4 => .ok (.next s) h4
  | .aug i op m, s, h => match s[i]? with
    | some (some x) => if augD op x then (ev cl gl m s h).bind fun y h1 => (binD op x y h1).bind fun z h2 => .ok (.next (s.set i (some z))) h2 else .bad
    | _ => .bad
  | .expr m, s, h => (ev cl gl m s h).bind fun _ h1 => .ok (.next s) h1
  | .ret m, s, h => (ev cl gl m s h).bind fun x h1 => .ok (.ret x) h1
  | .retn, _, h => .ok (.ret .non) h
  | .ite c a b, s, h => (ev cl gl c s h).bind fun x h1 => (truthR x h1).bind fun t h2 => if t then exs a s h2 else exs b s h2
  | .forr t it body, s, h => (evI cl gl it s h).bind fun items h1 => forL (fun x s1 h2 => match tgD t x s1 with
      | some s2 => exs body s2 h2
      | none => .bad) items s h1
  | .whil fuel c body, s, h => whileL (fun s1 h1 => (ev cl gl c s1 h1).bind fun x h2 => truthR x h2) (fun s1 h1 => exs body s1 h1) fuel s h
  | .pass, s, h => .ok (.next s) h
  | .brk, s, h => .ok (.brk s) h
  | .cont, s, h => .ok (.cont s) h
  | .never, _, _ => .bad
def exs : MSs → Env1 → Hc → Res Fl
  | .nil, s, h => .ok (.next s) h
  | .cons st ss, s, h => (ex st s h).bind fun r h1 => match r with
    | .next s1 => exs ss s1 h1
    | r => .ok r h1
end
end

/-! ### functions -/
mutual
def belowD (n : Nat) : Dv → Bool
  | .loc m => decide (m < n)
  | .tup xs => belowDs n xs
  | .lst xs => belowDs n xs
  | _ => true
def belowDs (n : Nat) : List Dv → Bool
  | [] => true
  | x :: xs => belowD n x && belowDs n xs
end
def belowC (n : Nat) : Cell → Bool
  | .lst xs => belowDs n xs
  | .fz xs => belowDs n xs
  | .scr _ => true
  | .dct kvs => belowDs n (kvs.map (·.2))
structure MFn where
  np : Nat
  nn : Nat
  body : MSs
def trimR (n : Nat) (v : Dv) (h : Hc) : Res Dv :=
  if h.length ≤ n then .ok v h else if belowD n v && (h.take n).all (belowC n) then .ok v (h.take n) else .ok v h
def startD (nn : Nat) (vs : List Dv) : Env1 := vs.map some ++ List.replicate (nn - vs.length) none
def callF (fs : List MFn) (gl : List Dv) : Nat → Nat → List Dv → Hc → Res Dv
  | 0, _, _, _ => .bad
  | k + 1, f, vs, h => match fs[f]? with
    | none => .bad
    | some fn => if vs.length = fn.np then (exs (callF fs gl k) gl fn.body (startD fn.nn vs) h).bind fun r h1 => match r with
        | .next _ => trimR h.length .non h1
        | .ret v => trimR h.length v h1
        | _ => .bad
      else .bad
end Dn

set_option Elab.async false
set_option linter.all false
set_option maxRecDepth 100000
set_option maxHeartbeats 1000000
/-! results against wishes; the primitive operations -/
namespace Dn
open PySem PySem.Spec PyProof.Rows L2

section
variable (K : PySem.W.Frag)
/-- the slots -/
structure EnvR (al : List Addr) (F : Hp) (sg : L2.St) (s : Env1) : Prop where
  len : s.length = sg.length
  get : ∀ (i : Nat) (d : Dv), s[i]? = some (some d) → ∃ v, sg[i]? = some (some v) ∧ Rp K al F v d

abbrev Post (t : Type) := List Addr → Hp → Hp → Hc → t → Prop
abbrev XPost := List Addr → Hp → Hp → Hc → Exn → Prop
def okR {t : Type} (post : Post t) (xp : XPost) (al : List Addr) (F H : Hp) : Res t → Prop
  | .ok x h => ∀ al' F' H', Ex al F H al' F' H' → StR K al' F' H' h → post al' F' H' h x
  | .exc e h => ∀ al' F' H', Ex al F H al' F' H' → StR K al' F' H' h → xp al' F' H' h e
  | .bad => False
def vpost (Q : VK) : Post Dv := fun al F H _ d => ∀ v, Rp K al F v d → Q v H
def lpost (Q : List V → Hp → Prop) : Post (List Dv) := fun al F H _ ds => ∀ vs, Rps K al F vs ds → Q vs H
def bpost {t : Type} (Q : t → Hp → Prop) : Post t := fun _ _ H _ b => Q b H
def XR (mg : Str → Option Value) (al : List Addr) (F : Hp) (e : Exn) (cls : Value) (d : Option Addr) (H : Hp) : Prop :=
  mg e.cls = some cls ∧ match e.fld with
    | none => True
    | some (f, x) => ∃ dd v, d = some dd ∧ H dd = some (.xd [(f, v)]) ∧ Rp K al F v x
def xpE (mg : Str → Option Value) (W : WX) (sg : L2.St) : XPost := fun al F H _ e => ∀ cls d, XR K mg al F e cls d H → W cls d sg H
end

section
variable {K : PySem.W.Frag} {t u : Type} {post : Post t} {xp : XPost} {al al1 : List Addr} {F F1 H H1 : Hp} {h h1 : Hc}
theorem okR.imp {post' : Post t} {r : Res t} (o : okR K post xp al F H r) (f : ∀ al' F' H' h' x, Ex al F H al' F' H' → StR K al' F' H' h' → post al' F' H' h' x → post' al' F' H' h' x) : okR K post' xp al F H r := by
  cases r with
  | ok x h' => exact fun al' F' H' e s => f al' F' H' h' x e s (o al' F' H' e s)
  | exc e h' => exact o
  | bad => exact o
theorem okR.impX {xp' : XPost} {r : Res t} (o : okR K post xp al F H r) (f : ∀ al' F' H' h' x, Ex al F H al' F' H' → StR K al' F' H' h' → xp al' F' H' h' x → xp' al' F' H' h' x) : okR K post xp' al F H r := by
  cases r with
  | ok x h' => exact o
  | exc x h' => exact fun al' F' H' e s => f al' F' H' h' x e s (o al' F' H' e s)
  | bad => exact o
theorem okR.ext {r : Res t} (o : okR K post xp al F H r) (e : Ex al F H al1 F1 H1) (s : StR K al1 F1 H1 h1) : okR K post xp al1 F1 H1 r := by
  cases r with
  | ok x h' => exact fun al' F' H' e' s' => o al' F' H' (e.trans s e') s'
  | exc x h' => exact fun al' F' H' e' s' => o al' F' H' (e.trans s e') s'
  | bad => exact o
theorem okR.bind {post : Post u} {r : Res t} {k : t → Hc → Res u} (o : okR K post xp al F H (r.bind k)) :
    okR K (fun al1 F1 H1 h1 x => okR K post xp al1 F1 H1 (k x h1)) xp al F H r := by
  cases r with
  | ok x h' => exact fun al' F' H' e s => okR.ext (show okR K post xp al F H (k x h') from o) e s
  | exc x h' => exact o
  | bad => exact o
theorem okR.now {d : t} (o : okR K post xp al F H (.ok d h)) (s : StR K al F H h) : post al F H h d := o al F H .refl s
variable {Q : VK}
theorem okR.val {v : V} {d : Dv} (o : okR K (vpost K Q) xp al F H (.ok d h)) (s : StR K al F H h) (r : Rp K al F v d) : Q v H := o al F H .refl s v r
theorem okR.newL {vs : List V} {ds : List Dv} (o : okR K (vpost K Q) xp al F H (.ok (.lst ds) h)) (s : StR K al F H h) (r : Rps K al F vs ds) : ∀ p, H p = none → Q (.ref p) (upd H p (.lst vs)) := fun p hp =>
  o al (upd F p (.lst vs)) (upd H p (.lst vs)) (.new s hp) (s.new hp) _ (.lst upd_same (r.ext (.new s hp)))
theorem okR.newO {vs : List V} {ds : List Dv} (o : okR K (vpost K Q) xp al F H (.ok (.loc h.length) (h ++ [.lst ds]))) (s : StR K al F H h) (r : Rps K al F vs ds) : ∀ p, H p = none → Q (.ref p) (upd H p (.lst vs)) := fun p hp => by
  have hF : F p = none := by
    cases q : F p with
    | none => rfl
    | some u => rw [s.sub _ _ q] at hp; cases hp
  refine o (al ++ [p]) F (upd H p (.lst vs)) (.newCell s hp) (s.newCell hp ⟨hF, vs, upd_same, r.ext (.newCell (o := .lst vs) s hp)⟩) _ (.loc ?_)
  rw [← s.len]
  simp
theorem okR.newT {vs : List V} {ds : List Dv} (o : okR K (vpost K Q) xp al F H (.ok (.tup ds) h)) (s : StR K al F H h) (r : Rps K al F vs ds) : ∀ p, H p = none → Q (.ref p) (upd H p (.tup vs)) := fun p hp =>
  o al (upd F p (.tup vs)) (upd H p (.tup vs)) (.new s hp) (s.new hp) _ (.tup (.inl (.inl upd_same)) (r.ext (.new s hp)))
theorem EnvR.ext {sg : L2.St} {s : Env1} (e : EnvR K al F sg s) (x : Ex al F H al1 F1 H1) : EnvR K al1 F1 sg s :=
  ⟨e.len, fun i d q => let ⟨v, h1, h2⟩ := e.get i d q; ⟨v, h1, h2.ext x⟩⟩
theorem EnvR.set {sg : L2.St} {s : Env1} {i : Nat} {v : V} {d : Dv} (e : EnvR K al F sg s) (r : Rp K al F v d) : EnvR K al F (sg.set i (some v)) (s.set i (some d)) := by
  refine ⟨by simp [e.len], fun j x q => ?_⟩
  by_cases hj : i = j
  · subst hj
    by_cases hl : i < s.length
    · rw [List.getElem?_set_self hl] at q
      cases q
      exact ⟨v, by rw [List.getElem?_set_self (by rw [← e.len]; exact hl)], r⟩
    · rw [List.getElem?_eq_none (by simpa using hl)] at q; cases q
  · rw [List.getElem?_set_ne hj] at q ⊢
    exact e.get j x q
theorem EnvR.setNone {sg : L2.St} {s : Env1} {i : Nat} {o : Option V} (e : EnvR K al F sg s) : EnvR K al F (sg.set i o) (s.set i none) := by
  refine ⟨by simp [e.len], fun j x q => ?_⟩
  by_cases hj : i = j
  · subst hj
    by_cases hl : i < s.length
    · rw [List.getElem?_set_self hl] at q; cases q
    · rw [List.getElem?_eq_none (by simpa using hl)] at q; cases q
  · rw [List.getElem?_set_ne hj] at q ⊢
    exact e.get j x q
theorem EnvR.wipe {sg : L2.St} {s : Env1} (e : EnvR K al F sg s) : ∀ vs : List Nat, EnvR K al F (L2.wipe sg vs) (wipeD s vs)
  | [] => e
  | _ :: vs => (EnvR.wipe e vs).setNone
end

/-! ### lists and cells -/
section
variable {K : PySem.W.Frag} {al : List Addr} {F H : Hp} {h : Hc} {v : V} {d : Dv} {xs : List Dv}
theorem StR.atCell (s : StR K al F H h) {n : Nat} {a : Addr} {c : Cell} (ha : al[n]? = some a) (hc : h[n]? = some c) : CellR K al F H a c := s.cell n a c ha hc
theorem StR.seqL (s : StR K al F H h) (r : Rp K al F v d) (e : lstOf h d = some xs) : ∃ a vs, v = .ref a ∧ SqL K H a vs ∧ Rps K al F vs xs := by
  cases r with
  | lst h1 h2 => cases e; exact ⟨_, _, rfl, .inl (.inl (s.sub _ _ h1)), h2⟩
  | @loc a n h1 =>
    cases q : h[n]? with
    | none => simp [lstOf, q] at e
    | some c =>
      simp only [lstOf, q] at e
      have z := s.cell n a c h1 q
      cases c with
      | lst ys => cases e; obtain ⟨_, vs, z1, z2⟩ := z; exact ⟨_, vs, rfl, .inl (.inl z1), z2⟩
      | fz ys => cases e; obtain ⟨vs, z1, z2⟩ := z; exact ⟨_, vs, rfl, .inl (.inl (s.sub _ _ z1)), z2⟩
      | scr ys => cases e; obtain ⟨_, vs, z1, z2⟩ := z; exact ⟨_, vs, rfl, SqL.mono s.sub z1, z2⟩
      | dct kvs => cases e
  | _ => cases e
theorem StR.seqOwn (s : StR K al F H h) (r : Rp K al F v d) (e : lstOwn h d = some xs) : ∃ a vs, v = .ref a ∧ H a = some (.lst vs) ∧ Rps K al F vs xs := by
  cases r with
  | lst h1 h2 => cases e; exact ⟨_, _, rfl, s.sub _ _ h1, h2⟩
  | @loc a n h1 =>
    cases q : h[n]? with
    | none => simp [lstOwn, q] at e
    | some c =>
      simp only [lstOwn, q] at e
      have z := s.cell n a c h1 q
      cases c with
      | lst ys => cases e; obtain ⟨_, vs, z1, z2⟩ := z; exact ⟨_, vs, rfl, z1, z2⟩
      | fz ys => cases e; obtain ⟨vs, z1, z2⟩ := z; exact ⟨_, vs, rfl, s.sub _ _ z1, z2⟩
      | scr ys => cases e
      | dct kvs => cases e
  | _ => cases e
theorem StR.seqStill (s : StR K al F H h) (r : Rp K al F v d) (e : lstStill h d = some xs) : ∃ a vs, v = .ref a ∧ SqL K F a vs ∧ Rps K al F vs xs := by
  cases r with
  | lst h1 h2 => cases e; exact ⟨_, _, rfl, .inl (.inl h1), h2⟩
  | @loc a n h1 =>
    cases q : h[n]? with
    | none => simp [lstStill, q] at e
    | some c =>
      simp only [lstStill, q] at e
      have z := s.cell n a c h1 q
      cases c with
      | lst ys => cases e
      | fz ys => cases e; obtain ⟨vs, z1, z2⟩ := z; exact ⟨_, vs, rfl, .inl (.inl z1), z2⟩
      | scr ys => cases e; obtain ⟨_, vs, z1, z2⟩ := z; exact ⟨_, vs, rfl, z1, z2⟩
      | dct kvs => cases e
  | _ => cases e
theorem Rp.tupV (s : StR K al F H h) (r : Rp K al F v (.tup xs)) : ∃ a vs, v = .ref a ∧ SqT K F a vs ∧ SqT K H a vs ∧ Rps K al F vs xs := by
  cases r with
  | tup h1 h2 => exact ⟨_, _, rfl, h1, SqT.mono s.sub h1, h2⟩
theorem Rp.strV (r : Rp K al F v (.str l)) : v = .str (mkS l) ∧ StrOk l := by
  cases r with
  | str _ hs => exact ⟨rfl, hs⟩
theorem mkS_len (l : List Nat) : (mkS l).length = l.length := by simp [mkS, Str.length]
theorem mkS_app (a b : List Nat) : mkS a ++ mkS b = mkS (a ++ b) := by
  show Str.append (mkS a) (mkS b) = _
  simp [mkS, Str.append]
theorem mkS_cps (l : List Nat) : (mkS l).cps.toList = l := by simp [mkS]
theorem SZok_iff {n : Nat} : SZok n = true ↔ n ≤ SZ := by unfold SZok; rw [Nat.ble_eq]
end

/-! ### truth -/
section
variable {K : PySem.W.Frag} {al : List Addr} {F H : Hp} {h : Hc} {v : V} {d : Dv} {b : Bool}
theorem Rps.isEmpty {vs : List V} {xs : List Dv} (r : Rps K al F vs xs) : (!xs.isEmpty) = !vs.isEmpty := by cases r <;> rfl
theorem truV (s : StR K al F H h) (r : Rp K al F v d) (e : truth h d = some b) : TruV K v H b := by
  cases r with
  | non => cases e; rfl
  | bl c => cases e; rfl
  | int i => cases e; rfl
  | str l hs =>
    cases e
    refine ⟨by rw [mkS_len, SZ_eq]; exact hs.len, ?_⟩
    rw [mkS_len]
    cases l with
    | nil => rfl
    | cons c t =>
      show true = _
      rw [eq_comm, bne_iff_ne]
      simp only [List.length_cons]
      omega
  | tup h1 h2 => cases e; exact .inr (.inl ⟨_, SqT.mono s.sub h1, h2.isEmpty⟩)
  | lst h1 h2 => cases e; exact .inl ⟨_, .inl (.inl (s.sub _ _ h1)), h2.isEmpty⟩
  | @loc a n h1 =>
    cases q : h[n]? with
    | none => simp [truth, q] at e
    | some c =>
      simp only [truth, q] at e
      have z := s.cell n a c h1 q
      cases c with
      | lst ys => cases e; obtain ⟨_, vs, z1, z2⟩ := z; exact .inl ⟨_, .inl (.inl z1), z2.isEmpty⟩
      | fz ys => cases e; obtain ⟨vs, z1, z2⟩ := z; exact .inl ⟨_, .inl (.inl (s.sub _ _ z1)), z2.isEmpty⟩
      | scr ys => cases e; obtain ⟨_, vs, z1, z2⟩ := z; exact .inl ⟨_, SqL.mono s.sub z1, by rw [← z2.isEmpty]; cases ys <;> rfl⟩
      | dct kvs =>
        cases e
        obtain ⟨_, ws, z1, z2, z3⟩ := z
        refine .inr (.inr ⟨ws, z1, ?_⟩)
        cases ws with
        | nil =>
          cases kvs with
          | nil => rfl
          | cons _ _ => simp at z2
        | cons _ _ =>
          cases kvs with
          | nil => simp at z2
          | cons _ _ => rfl
end

/-! ### equality of data -/
mutual
def toP : Dv → PyData
  | .non => .none
  | .bl b => .bool b
  | .int i => .int i
  | .str s => .str (mkS s)
  | .tup xs => .tuple (toPs xs)
  | .lst xs => .list (toPs xs)
  | .loc _ => .none
def toPs : List Dv → List PyData
  | [] => []
  | x :: xs => toP x :: toPs xs
end
theorem mkS_beq (a b : List Nat) : (mkS a == mkS b) = (a == b) := by
  rw [Bool.eq_iff_iff, beq_iff_eq, beq_iff_eq]
  constructor
  · intro e
    have := congrArg (fun s : Str => s.cps.toList) e
    simpa using this
  · rintro rfl; rfl
theorem depDs_cons {x : Dv} {xs : List Dv} {n : Nat} (e : depDs (x :: xs) = some n) : ∃ a b, depD x = some a ∧ depDs xs = some b ∧ n = max a b := by
  unfold depDs at e
  cases h1 : depD x with
  | none => rw [h1] at e; cases e
  | some a =>
    cases h2 : depDs xs with
    | none => rw [h1, h2] at e; cases e
    | some b => rw [h1, h2] at e; cases e; exact ⟨a, b, rfl, rfl, rfl⟩
mutual
theorem eqvP : ∀ (x y : Dv) {m n : Nat}, depD x = some m → depD y = some n → PyData.eqv (toP x) (toP y) = eqD x y
  | .loc _, _, _, _, h, _ => by cases h
  | x, .loc _, _, _, _, h => by cases h
  | .tup xs, .tup ys, m, n, h1, h2 => by
    obtain ⟨a, ha, _⟩ := Option.map_eq_some_iff.mp (show (depDs xs).map (· + 1) = some m by simpa [depD] using h1)
    obtain ⟨b, hb, _⟩ := Option.map_eq_some_iff.mp (show (depDs ys).map (· + 1) = some n by simpa [depD] using h2)
    simpa [toP, eqD, PyData.eqv] using eqvPs xs ys ha hb
  | .lst xs, .lst ys, m, n, h1, h2 => by
    obtain ⟨a, ha, _⟩ := Option.map_eq_some_iff.mp (show (depDs xs).map (· + 1) = some m by simpa [depD] using h1)
    obtain ⟨b, hb, _⟩ := Option.map_eq_some_iff.mp (show (depDs ys).map (· + 1) = some n by simpa [depD] using h2)
    simpa [toP, eqD, PyData.eqv] using eqvPs xs ys ha hb
  | .str a, .str b, _, _, _, _ => by simp only [toP, eqD, PyData.eqv]; exact mkS_beq a b
  | .non, .non, _, _, _, _ => by simp [toP, eqD, PyData.eqv]
  | .non, .bl _, _, _, _, _ => by simp [toP, eqD, PyData.eqv]
  | .non, .int _, _, _, _, _ => by simp [toP, eqD, PyData.eqv]
  | .non, .str _, _, _, _, _ => by simp [toP, eqD, PyData.eqv]
  | .non, .tup _, _, _, _, _ => by simp [toP, eqD, PyData.eqv]
  | .non, .lst _, _, _, _, _ => by simp [toP, eqD, PyData.eqv]
  | .bl _, .non, _, _, _, _ => by simp [toP, eqD, PyData.eqv]
  | .bl _, .bl _, _, _, _, _ => by simp [toP, eqD, PyData.eqv]
  | .bl _, .int _, _, _, _, _ => by simp [toP, eqD, PyData.eqv]
  | .bl _, .str _, _, _, _, _ => by simp [toP, eqD, PyData.eqv]
  | .bl _, .tup _, _, _, _, _ => by simp [toP, eqD, PyData.eqv]
  | .bl _, .lst _, _, _, _, _ => by simp [toP, eqD, PyData.eqv]
  | .int _, .non, _, _, _, _ => by simp [toP, eqD, PyData.eqv]
  | .int _, .bl _, _, _, _, _ => by simp [toP, eqD, PyData.eqv]
  | .int _, .int _, _, _, _, _ => by simp [toP, eqD, PyData.eqv]
  | .int _, .str _, _, _, _, _ => by simp [toP, eqD, PyData.eqv]
  | .int _, .tup _, _, _, _, _ => by simp [toP, eqD, PyData.eqv]
  | .int _, .lst _, _, _, _, _ => by simp [toP, eqD, PyData.eqv]
  | .str _, .non, _, _, _, _ => by simp [toP, eqD, PyData.eqv]
  | .str _, .bl _, _, _, _, _ => by simp [toP, eqD, PyData.eqv]
  | .str _, .int _, _, _, _, _ => by simp [toP, eqD, PyData.eqv]
  | .str _, .tup _, _, _, _, _ => by simp [toP, eqD, PyData.eqv]
  | .str _, .lst _, _, _, _, _ => by simp [toP, eqD, PyData.eqv]
  | .tup _, .non, _, _, _, _ => by simp [toP, eqD, PyData.eqv]
  | .tup _, .bl _, _, _, _, _ => by simp [toP, eqD, PyData.eqv]
  | .tup _, .int _, _, _, _, _ => by simp [toP, eqD, PyData.eqv]
  | .tup _, .str _, _, _, _, _ => by simp [toP, eqD, PyData.eqv]
  | .tup _, .lst _, _, _, _, _ => by simp [toP, eqD, PyData.eqv]
  | .lst _, .non, _, _, _, _ => by simp [toP, eqD, PyData.eqv]
  | .lst _, .bl _, _, _, _, _ => by simp [toP, eqD, PyData.eqv]
  | .lst _, .int _, _, _, _, _ => by simp [toP, eqD, PyData.eqv]
  | .lst _, .str _, _, _, _, _ => by simp [toP, eqD, PyData.eqv]
  | .lst _, .tup _, _, _, _, _ => by simp [toP, eqD, PyData.eqv]
theorem eqvPs : ∀ (xs ys : List Dv) {m n : Nat}, depDs xs = some m → depDs ys = some n → PyData.eqvAll (toPs xs) (toPs ys) = eqDs xs ys
  | [], [], _, _, _, _ => by simp [toPs, eqDs, PyData.eqvAll]
  | [], _ :: _, _, _, _, _ => by simp [toPs, eqDs, PyData.eqvAll]
  | _ :: _, [], _, _, _, _ => by simp [toPs, eqDs, PyData.eqvAll]
  | x :: xs, y :: ys, m, n, h1, h2 => by
    obtain ⟨a, b, q1, q2, _⟩ := depDs_cons h1
    obtain ⟨c, d, q3, q4, _⟩ := depDs_cons h2
    simp only [toPs, eqDs, PyData.eqvAll]
    rw [eqvP x y q1 q3, eqvPs xs ys q2 q4]
end
section
variable {K : PySem.W.Frag} {al : List Addr} {F H : Hp} {h : Hc}
mutual
theorem Rp.dp (hs : ∀ a o, F a = some o → H a = some o) : ∀ {v : V} {d : Dv} {n : Nat}, Rp K al F v d → depD d = some n → Dp K H v (toP d) ∧ (toP d).canLay0 = true ∧ (toP d).depth = n
  | _, _, _, .non, e => by cases e; exact ⟨.non, rfl, rfl⟩
  | _, _, _, .bl b, e => by cases e; exact ⟨.bl b, rfl, rfl⟩
  | _, _, _, .int b, e => by cases e; exact ⟨.int b, rfl, rfl⟩
  | _, _, _, .str s q, e => by
    cases e
    refine ⟨.str _, ?_, rfl⟩
    simp only [toP, PyData.canLay0, PyData.strOk, mkS, List.all_toArray, List.all_eq_true, decide_eq_true_eq]
    intro c hc
    have := q.sgn c hc
    omega
  | _, .tup ds, n, .tup q1 q2, e => by
    obtain ⟨a, ha, rfl⟩ := Option.map_eq_some_iff.mp (show (depDs ds).map (· + 1) = some n by simpa [depD] using e)
    obtain ⟨z1, z2, z3⟩ := Rps.dp hs q2 ha
    exact ⟨.tup (SqT.mono hs q1) z1, by simpa [toP, PyData.canLay0] using z2, by simp [toP, PyData.depth, z3]⟩
  | _, .lst ds, n, .lst q1 q2, e => by
    obtain ⟨a, ha, rfl⟩ := Option.map_eq_some_iff.mp (show (depDs ds).map (· + 1) = some n by simpa [depD] using e)
    obtain ⟨z1, z2, z3⟩ := Rps.dp hs q2 ha
    exact ⟨.lst (.inl (.inl (hs _ _ q1))) z1, by simpa [toP, PyData.canLay0] using z2, by simp [toP, PyData.depth, z3]⟩
  | _, _, _, .loc q, e => by cases e
theorem Rps.dp (hs : ∀ a o, F a = some o → H a = some o) : ∀ {vs : List V} {ds : List Dv} {n : Nat}, Rps K al F vs ds → depDs ds = some n → DpAll K H vs (toPs ds) ∧ PyData.canLayAll0 (toPs ds) = true ∧ PyData.depthAll (toPs ds) = n
  | _, _, _, .nil, e => by cases e; exact ⟨.nil, rfl, rfl⟩
  | _, _, n, .cons q1 q2, e => by
    obtain ⟨a, b, ha, hb, rfl⟩ := depDs_cons e
    obtain ⟨z1, z2, z3⟩ := Rp.dp hs q1 ha
    obtain ⟨y1, y2, y3⟩ := Rps.dp hs q2 hb
    exact ⟨.cons z1 y1, by simp [toPs, PyData.canLayAll0, z2, y2], by simp [toPs, PyData.depthAll, z3, y3]⟩
end
theorem plain_dp (s : StR K al F H h) {v : V} {d : Dv} (r : Rp K al F v d) (e : shapeB (plainD h d) = true) : Dp K H v (toP (plainD h d)) ∧ SeqAt.shaped (toP (plainD h d)) = true ∧ ∃ n, depD (plainD h d) = some n := by
  have key : ∀ d', Dp K H v (toP d') ∧ (toP d').canLay0 = true ∧ (∃ n, depD d' = some n ∧ (toP d').depth = n) → shapeB d' = true → Dp K H v (toP d') ∧ SeqAt.shaped (toP d') = true ∧ ∃ n, depD d' = some n := by
    rintro d' ⟨z1, z2, n, z3, z4⟩ e
    unfold shapeB at e
    rw [z3] at e
    have e' : n ≤ 60 := of_decide_eq_true e
    refine ⟨z1, ?_, n, z3⟩
    unfold SeqAt.shaped
    rw [z2, z4, Bool.true_and]
    exact decide_eq_true (by omega)
  have plain : ∀ d', Rp K al F v d' → shapeB d' = true → Dp K H v (toP d') ∧ SeqAt.shaped (toP d') = true ∧ ∃ n, depD d' = some n := fun d' r e => by
    refine key d' ?_ e
    unfold shapeB at e
    cases q : depD d' with
    | none => rw [q] at e; cases e
    | some n =>
      obtain ⟨z1, z2, z3⟩ := r.dp s.sub q
      exact ⟨z1, z2, n, rfl, z3⟩
  cases d with
  | loc n =>
    cases q : lstOf h (.loc n) with
    | none =>
      have e1 : plainD h (.loc n) = .loc n := by simp [plainD, q]
      rw [e1] at e ⊢
      exact plain _ r e
    | some xs =>
      have e1 : plainD h (.loc n) = .lst xs := by simp [plainD, q]
      rw [e1] at e ⊢
      obtain ⟨a, vs, rfl, hq, hr⟩ := s.seqL r q
      refine key _ ?_ e
      unfold shapeB at e
      cases q2 : depD (.lst xs) with
      | none => rw [q2] at e; cases e
      | some n =>
        obtain ⟨m, hm, rfl⟩ := Option.map_eq_some_iff.mp (show (depDs xs).map (· + 1) = some n by simpa [depD] using q2)
        obtain ⟨z1, z2, z3⟩ := Rps.dp s.sub hr hm
        exact ⟨.lst hq z1, by simpa [toP, PyData.canLay0] using z2, _, rfl, by simp [toP, PyData.depth, z3]⟩
  | _ => exact plain _ r e
/-- flat things -/
theorem Rp.flat {v : V} {d : Dv} (r : Rp K al F v d) (e : flatD d = true) : flatV v = true := by cases r <;> first | rfl | cases e
theorem Rps.flat : ∀ {vs : List V} {ds : List Dv}, Rps K al F vs ds → ds.all flatD = true → vs.all flatV = true
  | _, _, .nil, _ => rfl
  | _, _, .cons q1 q2, e => by
    simp only [List.all_cons, Bool.and_eq_true] at e ⊢
    exact ⟨q1.flat e.1, q2.flat e.2⟩
theorem eqV_D {v w : V} {d e : Dv} (r : Rp K al F v d) (q : Rp K al F w e) (f1 : flatD d = true) (f2 : flatD e = true) : eqV v w = eqD d e := by
  cases r <;> first | cases f1 | skip
  all_goals cases q <;> first | cases f2 | skip
  all_goals first | rfl | (simp only [eqV, eqD]; exact mkS_beq _ _) | simp [eqV, eqD]
theorem inV_D {v : V} {d : Dv} (q : Rp K al F v d) (f : flatD d = true) : ∀ {vs : List V} {ds : List Dv}, Rps K al F vs ds → ds.all flatD = true → inV v vs = ds.any fun y => eqD y d
  | _, _, .nil, _ => rfl
  | _, _, .cons q1 q2, e => by
    simp only [List.all_cons, Bool.and_eq_true] at e
    have ih := inV_D q f q2 e.2
    unfold inV at ih ⊢
    simp only [List.any_cons]
    rw [ih, eqV_D q1 q e.1 f]
end

/-! ### texts -/
section
theorem atS_iff (a b : List Nat) (i : Nat) : StrLaws.At (mkS a) (mkS b) (mkS a).length i ↔ i ≤ a.length ∧ b.isPrefixOf (a.drop i) = true := by
  have key : b.isPrefixOf (a.drop i) = true ↔ (a.drop i).take b.length = b := by
    rw [List.isPrefixOf_iff_prefix, List.prefix_iff_eq_take]
    exact eq_comm
  rw [key]
  constructor
  · intro h
    have h1 := h.1
    have h2 := h.2
    rw [StrLaws.subAt_eq] at h2
    rw [mkS_len, mkS_len] at h1
    refine ⟨by omega, ?_⟩
    have := eq_of_beq h2
    simpa [TL.tl, mkS, Str.length] using this
  · rintro ⟨h1, h2⟩
    have e1 := congrArg List.length h2
    rw [List.length_take, List.length_drop] at e1
    refine ⟨by rw [mkS_len, mkS_len]; omega, ?_⟩
    rw [StrLaws.subAt_eq]
    simp only [TL.tl, mkS, Str.length, List.size_toArray]
    rw [h2]
    exact beq_self_eq_true _
end
section
theorem findAt_spec (b : List Nat) : ∀ (a : List Nat) (k : Nat), (findAt b a k = none ∧ ∀ i, i ≤ a.length → b.isPrefixOf (a.drop i) = false) ∨
    ∃ i, findAt b a k = some (k + i) ∧ i ≤ a.length ∧ b.isPrefixOf (a.drop i) = true ∧ ∀ j, j < i → b.isPrefixOf (a.drop j) = false
  | [], k => by
    cases b with
    | nil => exact .inr ⟨0, rfl, Nat.le_refl _, rfl, fun j hj => absurd hj (Nat.not_lt_zero _)⟩
    | cons x r => exact .inl ⟨rfl, fun i _ => by simp⟩
  | c :: t, k => by
    unfold findAt
    by_cases hp : b.isPrefixOf (c :: t) = true
    · rw [if_pos hp]
      exact .inr ⟨0, rfl, Nat.zero_le _, hp, fun j hj => absurd hj (Nat.not_lt_zero _)⟩
    · rw [if_neg hp]
      have hp' : b.isPrefixOf (c :: t) = false := Bool.eq_false_iff.mpr hp
      rcases findAt_spec b t (k + 1) with ⟨e, n⟩ | ⟨i, e, hl, hi, n⟩
      · refine .inl ⟨e, fun i hi => ?_⟩
        cases i with
        | zero => exact hp'
        | succ i => exact n i (by simpa using hi)
      · refine .inr ⟨i + 1, by rw [e]; congr 1; omega, by simpa using hl, hi, fun j hj => ?_⟩
        cases j with
        | zero => exact hp'
        | succ j => exact n j (by omega)
theorem rfindAt_spec (b : List Nat) : ∀ (a : List Nat) (k : Nat), (rfindAt b a k = none ∧ ∀ i, i ≤ a.length → b.isPrefixOf (a.drop i) = false) ∨
    ∃ i, rfindAt b a k = some (k + i) ∧ i ≤ a.length ∧ b.isPrefixOf (a.drop i) = true ∧ ∀ j, i < j → j ≤ a.length → b.isPrefixOf (a.drop j) = false
  | [], k => by
    cases b with
    | nil => exact .inr ⟨0, rfl, Nat.le_refl _, rfl, fun j hj hl => by simp at hl; omega⟩
    | cons x r => exact .inl ⟨rfl, fun i _ => by simp⟩
  | c :: t, k => by
    unfold rfindAt
    rcases rfindAt_spec b t (k + 1) with ⟨e, n⟩ | ⟨i, e, hl, hi, n⟩
    · rw [e]
      by_cases hp : b.isPrefixOf (c :: t) = true
      · simp only [hp, if_true]
        refine .inr ⟨0, rfl, Nat.zero_le _, hp, fun j hj hl => ?_⟩
        cases j with
        | zero => omega
        | succ j => exact n j (by simpa using hl)
      · have hp' : b.isPrefixOf (c :: t) = false := Bool.eq_false_iff.mpr hp
        simp only [hp', Bool.false_eq_true, if_false]
        refine .inl ⟨trivial, fun i hi => ?_⟩
        cases i with
        | zero => exact hp'
        | succ i => exact n i (by simpa using hi)
    · rw [e]
      refine .inr ⟨i + 1, by simp only; congr 1; omega, by simpa using hl, hi, fun j hj hl2 => ?_⟩
      cases j with
      | zero => omega
      | succ j => exact n j (by omega) (by simpa using hl2)
theorem occ_find (a b : List Nat) : (Builtin.Str.occurrences (mkS a) (mkS b) 0 (mkS a).length 1 = [] ∧ findAt b a 0 = none) ∨
    ∃ i r, Builtin.Str.occurrences (mkS a) (mkS b) 0 (mkS a).length 1 = i :: r ∧ findAt b a 0 = some i := by
  rcases StrLaws.occ_head (mkS a) (mkS b) 1 (Nat.le_refl _) with ⟨e, n⟩ | ⟨i, r, e, h1, n⟩
  · refine .inl ⟨e, ?_⟩
    rcases findAt_spec b a 0 with ⟨e2, _⟩ | ⟨j, _, hl, hj, _⟩
    · exact e2
    · exact absurd ((atS_iff a b j).mpr ⟨hl, hj⟩) (n j)
  · refine .inr ⟨i, r, e, ?_⟩
    obtain ⟨hl, hi⟩ := (atS_iff a b i).mp h1
    rcases findAt_spec b a 0 with ⟨_, n2⟩ | ⟨j, e2, hl2, hj, n2⟩
    · rw [n2 i hl] at hi; cases hi
    · rw [e2]
      have : i = j := by
        rcases Nat.lt_trichotomy i j with h | h | h
        · rw [n2 i h] at hi; cases hi
        · exact h
        · exact absurd ((atS_iff a b j).mpr ⟨hl2, hj⟩) (n j h)
      rw [this, Nat.zero_add]
theorem find_D (a b : List Nat) : Txt.find (mkS a) (mkS b) = findS a b := by
  unfold Txt.find findS
  rcases occ_find a b with ⟨e, e2⟩ | ⟨i, r, e, e2⟩ <;> rw [e, e2]
theorem sub_D (a b : List Nat) : (!(Builtin.Str.occurrences (mkS a) (mkS b) 0 (mkS a).length 1).isEmpty) = subS b a := by
  unfold subS
  rcases occ_find a b with ⟨e, e2⟩ | ⟨i, r, e, e2⟩ <;> rw [e, e2] <;> rfl
theorem rfind_D (a b : List Nat) : Txt.rfind (mkS a) (mkS b) = rfindS a b := by
  unfold Txt.rfind rfindS
  rcases StrLaws.last_spec (mkS a) (mkS b) with ⟨e, n⟩ | ⟨i, e, h1, n⟩
  · rw [e]
    rcases rfindAt_spec b a 0 with ⟨e2, _⟩ | ⟨j, _, hl, hj, _⟩
    · rw [e2]
    · exact absurd ((atS_iff a b j).mpr ⟨hl, hj⟩) (n j)
  · rw [e]
    obtain ⟨hl, hi⟩ := (atS_iff a b i).mp h1
    rcases rfindAt_spec b a 0 with ⟨_, n2⟩ | ⟨j, e2, hl2, hj, n2⟩
    · rw [n2 i hl] at hi; cases hi
    · rw [e2]
      have : i = j := by
        rcases Nat.lt_trichotomy i j with h | h | h
        · exact absurd ((atS_iff a b j).mpr ⟨hl2, hj⟩) (n j h)
        · exact h
        · rw [n2 i h hl] at hi; cases hi
      rw [this, Nat.zero_add]
theorem ok_one {s : List Nat} (h : StrOk s) {i : Int} {c : Nat} (e : atI s i = some c) : StrOk [c] := by
  obtain ⟨j, _, e2, _⟩ := atI_get e
  refine ⟨by simp [SZ], fun x hx => ?_⟩
  have : x = c := by simpa using hx
  subst this
  exact h.sgn _ (List.mem_of_getElem? e2)
theorem StrOk.app {a b : List Nat} (h1 : StrOk a) (h2 : StrOk b) (e : a.length + b.length ≤ SZ) : StrOk (a ++ b) :=
  ⟨by simpa using e, fun c hc => (List.mem_append.mp hc).elim (h1.sgn c) (h2.sgn c)⟩
theorem StrOk.sub {a b : List Nat} (h1 : StrOk a) (hl : b.length ≤ a.length) (hm : ∀ c ∈ b, c ∈ a) : StrOk b := ⟨Nat.le_trans hl h1.len, fun c hc => h1.sgn c (hm c hc)⟩
theorem cutD_mem {t : Type} {xs : List t} {lo hi : Option Int} {c : t} (h : c ∈ cutD xs lo hi) : c ∈ xs := List.mem_of_mem_drop (List.mem_of_mem_take h)
theorem cutD_len {t : Type} (xs : List t) (lo hi : Option Int) : (cutD xs lo hi).length ≤ xs.length := by
  unfold cutD
  rw [List.length_take, List.length_drop]
  omega
end
end Dn

set_option Elab.async false
set_option linter.all false
set_option maxRecDepth 100000
set_option maxHeartbeats 1000000
/-! the primitive operations keep their word -/
namespace Dn
open PySem PySem.Spec PyProof.Rows L2

def opOf : BOp → Operator
  | .add => .Add | .sub => .Sub | .mul => .Mult | .fdiv => .FloorDiv | .mod => .Mod | .pow => .Pow | .addN => .Add | .mulN => .Mult
def rBin (K : PySem.W.Frag) (op : BOp) : R2 := fun x y H Q => ∃ al F h d e xp, StR K al F H h ∧ Rp K al F x d ∧ Rp K al F y e ∧ okR K (vpost K Q) xp al F H (binD op d e h)
def rCmp (K : PySem.W.Frag) (op : COp) : R2 := fun x y H Q => ∃ al F h d e xp, StR K al F H h ∧ Rp K al F x d ∧ Rp K al F y e ∧ okR K (vpost K Q) xp al F H (cmpD op d e h)

section
variable {X : Cx} {Q : VK} {al : List Addr} {F H : Hp} {h : Hc} {xp : XPost}

theorem lstOwn_none {K : PySem.W.Frag} {v : V} {d : Dv} (r : Rp K al F v d) (e : lstOwn h d = none) : True := trivial

theorem wide_mulOk {i j : Int} (e : mulOk i j = true) : CMul i j ∨ CMulW i j := by
  unfold mulOk at e
  simp only [Bool.or_eq_true, Bool.and_eq_true, decide_eq_true_eq] at e
  rcases e with (e | e) | ⟨e1, e2⟩
  · exact .inl (.inl ⟨by omega, by omega⟩)
  · exact .inl (.inr ⟨by omega, by omega⟩)
  · exact .inr (wide_mul e1 e2 (by decide) (by decide) (by decide))

/-- the shared part of + on lists -/
theorem bin_cat {K : PySem.W.Frag} {x y : V} {d e : Dv} (st : StR K al F H h) (rd : Rp K al F x d) (re : Rp K al F y e)
    (ok : okR K (vpost K Q) xp al F H (match lstOwn h d, lstOwn h e with
      | some xs, some ys => if SZok (xs.length + ys.length) then .ok (.lst (xs ++ ys)) h else .bad
      | _, _ => .bad)) : rCat x y H Q := by
  cases q1 : lstOwn h d with
  | none => rw [q1] at ok; exact False.elim ok
  | some xs =>
    cases q2 : lstOwn h e with
    | none => rw [q1, q2] at ok; exact False.elim ok
    | some ys =>
      rw [q1, q2] at ok
      dsimp only at ok
      by_cases z : SZok (xs.length + ys.length) = true
      · rw [if_pos z] at ok
        obtain ⟨a, vs, rfl, ha, ra⟩ := st.seqOwn rd q1
        obtain ⟨b, ws, rfl, hb, rb⟩ := st.seqOwn re q2
        refine ⟨a, b, vs, ws, rfl, rfl, ha, hb, ?_, ok.newL st (ra.append rb)⟩
        rw [ra.length, rb.length, SZ_eq]
        exact SZok_iff.mp z
      · rw [if_neg z] at ok
        exact False.elim ok
/-- .. whose outcome will be changed -/
theorem bin_catN {K : PySem.W.Frag} {x y : V} {d e : Dv} (st : StR K al F H h) (rd : Rp K al F x d) (re : Rp K al F y e)
    (ok : okR K (vpost K Q) xp al F H (match lstOwn h d, lstOwn h e with
      | some xs, some ys => if SZok (xs.length + ys.length) then (Res.ok (.loc h.length) (h ++ [.lst (xs ++ ys)])) else .bad
      | _, _ => .bad)) : rCat x y H Q := by
  cases q1 : lstOwn h d with
  | none => rw [q1] at ok; exact False.elim ok
  | some xs =>
    cases q2 : lstOwn h e with
    | none => rw [q1, q2] at ok; exact False.elim ok
    | some ys =>
      rw [q1, q2] at ok
      dsimp only at ok
      by_cases z : SZok (xs.length + ys.length) = true
      · rw [if_pos z] at ok
        obtain ⟨a, vs, rfl, ha, ra⟩ := st.seqOwn rd q1
        obtain ⟨b, ws, rfl, hb, rb⟩ := st.seqOwn re q2
        refine ⟨a, b, vs, ws, rfl, rfl, ha, hb, ?_, ok.newO st (ra.append rb)⟩
        rw [ra.length, rb.length, SZ_eq]
        exact SZok_iff.mp z
      · rw [if_neg z] at ok
        exact False.elim ok
theorem bin_rep {K : PySem.W.Frag} {x : V} {k : Int} {d : Dv} (st : StR K al F H h) (rd : Rp K al F x d)
    (ok : okR K (vpost K Q) xp al F H (match lstOwn h d with
      | some xs => if -(2 ^ 62) ≤ k ∧ k < 2 ^ 62 ∧ xs.length * k.toNat ≤ SZ then .ok (.lst (List.replicate k.toNat xs).flatten) h else .bad
      | none => .bad)) : rRep x (.int k) H Q := by
  cases q1 : lstOwn h d with
  | none => rw [q1] at ok; exact False.elim ok
  | some xs =>
    rw [q1] at ok
    dsimp only at ok
    by_cases z : -(2 ^ 62) ≤ k ∧ k < 2 ^ 62 ∧ xs.length * k.toNat ≤ SZ
    · rw [if_pos z] at ok
      obtain ⟨a, vs, rfl, ha, ra⟩ := st.seqOwn rd q1
      refine ⟨a, k, vs, rfl, rfl, ha, by omega, by omega, ?_, ok.newL st ?_⟩
      · rw [ra.length, SZ_eq]; exact z.2.2
      · generalize k.toNat = n
        clear z ok
        induction n with
        | zero => exact .nil
        | succ n ih =>
          rw [List.replicate_succ, List.replicate_succ, List.flatten_cons, List.flatten_cons]
          exact ra.append ih
    · rw [if_neg z] at ok
      exact False.elim ok

theorem rps_rep {K : PySem.W.Frag} {vs : List V} {ds : List Dv} (r : Rps K al F vs ds) (n : Nat) : Rps K al F (List.replicate n vs).flatten (List.replicate n ds).flatten := by
  induction n with
  | zero => exact .nil
  | succ n ih =>
    rw [List.replicate_succ, List.replicate_succ, List.flatten_cons, List.flatten_cons]
    exact r.append ih
theorem bin_repN {K : PySem.W.Frag} {x : V} {k : Int} {d : Dv} (st : StR K al F H h) (rd : Rp K al F x d)
    (ok : okR K (vpost K Q) xp al F H (match lstOwn h d with
      | some xs => if -(2 ^ 62) ≤ k ∧ k < 2 ^ 62 ∧ xs.length * k.toNat ≤ SZ then .ok (.loc h.length) (h ++ [.lst (List.replicate k.toNat xs).flatten]) else .bad
      | none => .bad)) : rRep x (.int k) H Q := by
  cases q1 : lstOwn h d with
  | none => rw [q1] at ok; exact False.elim ok
  | some xs =>
    rw [q1] at ok
    dsimp only at ok
    by_cases z : -(2 ^ 62) ≤ k ∧ k < 2 ^ 62 ∧ xs.length * k.toNat ≤ SZ
    · rw [if_pos z] at ok
      obtain ⟨a, vs, rfl, ha, ra⟩ := st.seqOwn rd q1
      refine ⟨a, k, vs, rfl, rfl, ha, by omega, by omega, ?_, ok.newO st (rps_rep ra _)⟩
      rw [ra.length, SZ_eq]; exact z.2.2
    · rw [if_neg z] at ok
      exact False.elim ok
theorem txt_mul (a : List Nat) (j : Int) : PySem.Txt.mul (mkS a) j = mkS (List.replicate j.toNat a).flatten := by
  have fold : ∀ (n : Nat) (b : Array Nat), (List.replicate n a.toArray).foldl (· ++ ·) b = (b.toList ++ (List.replicate n a).flatten).toArray := by
    intro n
    induction n with
    | zero => intro b; simp
    | succ n ih => intro b; rw [List.replicate_succ, List.foldl_cons, ih, List.replicate_succ]; simp
  unfold PySem.Txt.mul
  split
  · have : j.toNat = 0 := by omega
    rw [this]; rfl
  · split
    · rename_i h
      simp only [Bool.or_eq_true, beq_iff_eq] at h
      rcases h with h | h
      · subst h; simp
      · have : a = [] := by
          have h' : a.length = 0 := h
          exact List.length_eq_zero_iff.mp h'
        subst this
        have e : ∀ n : Nat, (List.replicate n ([] : List Nat)).flatten = [] := fun n => by
          induction n with
          | zero => rfl
          | succ n ih => rw [List.replicate_succ, List.flatten_cons, ih]; rfl
        rw [e]
    · show (⟨(List.replicate j.toNat a.toArray).foldl (· ++ ·) #[]⟩ : Str) = mkS _
      rw [fold]
      rfl
theorem mulOk_str {a : List Nat} {j : Int} (z : -(2 ^ 62) ≤ j ∧ j < 2 ^ 62 ∧ a.length * j.toNat ≤ SZ) : PySem.MulOk (mkS a) j := by
  obtain ⟨z1, z2, z3⟩ := z
  have hl : (mkS a).length = a.length := mkS_len a
  refine ⟨?_, fun h1 h2 h3 => ?_, fun h1 h2 => ?_⟩
  · simp; omega
  · rw [hl] at h3
    have : (a.length : Int) * j ≤ 2 ^ 63 - 1 := by
      have e : (j.toNat : Int) = j := by omega
      have z4 : ((a.length * j.toNat : Nat) : Int) ≤ (SZ : Int) := by exact_mod_cast z3
      rw [Int.natCast_mul, e] at z4
      unfold SZ at z4
      omega
    have : (a.length : Int) ≤ (2 ^ 63 - 1) / j := (Int.le_ediv_iff_mul_le (by omega)).mpr this
    omega
  · rw [hl]
    have : ¬ (a.length * j.toNat > sizeLine) := by rw [← SZ_eq] at z3; omega
    exact decide_eq_false this
theorem StrOk.rep {a : List Nat} {n : Nat} (h : StrOk a) (z : a.length * n ≤ SZ) : StrOk (List.replicate n a).flatten := by
  refine ⟨?_, fun c hc => ?_⟩
  · have e : ∀ n : Nat, (List.replicate n a).flatten.length = a.length * n := fun n => by
      induction n with
      | zero => rfl
      | succ n ih => rw [List.replicate_succ, List.flatten_cons, List.length_append, ih, Nat.mul_succ]; omega
    rw [e]; exact z
  · obtain ⟨l, hl, hc⟩ := List.mem_flatten.mp hc
    rw [List.eq_of_mem_replicate hl] at hc
    exact h.sgn c hc
theorem opr_bin (op : BOp) : OpR X (binaryOp (opOf op)) (rBin X.K op) := by
  intro pins s σ H x y v u Q I rx ry hr
  obtain ⟨al, F, h, d, e, xp, st, rd, re, ok⟩ := hr
  cases op with
  | add =>
    cases rd with
    | int i =>
      cases re with
      | int j => exact op_add pins s σ H _ _ v u Q I rx ry ⟨i, j, rfl, rfl, ok.val st (.int _)⟩
      | _ => exact False.elim ok
    | str a ha =>
      cases re with
      | str b hb =>
        have ok' : okR X.K (vpost X.K Q) xp al F H (if SZok (a.length + b.length) then .ok (.str (a ++ b)) h else .bad) := ok
        by_cases z : SZok (a.length + b.length) = true
        · rw [if_pos z] at ok'
          have z' := SZok_iff.mp z
          refine op_add_str pins s σ H _ _ v u Q I rx ry ⟨_, _, rfl, rfl, by rw [mkS_len, mkS_len, SZ_eq]; exact z', ?_⟩
          rw [mkS_app]
          exact ok'.val st (.str _ (ha.app hb z'))
        · rw [if_neg z] at ok'; exact False.elim ok'
      | _ => exact False.elim ok
    | tup h1 h2 =>
      cases re with
      | tup h3 h4 =>
        rename_i a vs ds b ws es
        have ok' : okR X.K (vpost X.K Q) xp al F H (if SZok (ds.length + es.length) then .ok (.tup (ds ++ es)) h else .bad) := ok
        by_cases z : SZok (ds.length + es.length) = true
        · rw [if_pos z] at ok'
          have z' := SZok_iff.mp z
          refine op_catA pins s σ H _ _ v u Q I rx ry ⟨_, _, vs, ws, rfl, rfl, SqT.mono st.sub h1, SqT.mono st.sub h3, by rw [h2.length, h4.length, SZ_eq]; exact z', fun q => ?_, fun q1 q2 => ?_, fun _ _ => ok'.newT st (h2.append h4)⟩
          · subst q; cases h2; exact ok'.val st (.tup h3 h4)
          · subst q2; cases h4; rw [List.append_nil] at ok'; exact ok'.val st (.tup h1 h2)
        · rw [if_neg z] at ok'; exact False.elim ok'
      | _ => exact False.elim ok
    | lst h1 h2 => exact op_cat pins s σ H _ _ v u Q I rx ry (bin_cat (xp := xp) st (.lst h1 h2) re (by cases re <;> exact ok))
    | loc h1 => exact op_cat pins s σ H _ _ v u Q I rx ry (bin_cat (xp := xp) st (.loc h1) re (by cases re <;> exact ok))
    | non => exact False.elim ok
    | bl b => exact False.elim ok
  | addN => exact op_cat pins s σ H _ _ v u Q I rx ry (bin_catN (xp := xp) st rd re ok)
  | mulN =>
    cases re with
    | int j => exact op_rep pins s σ H _ _ v u Q I rx ry (bin_repN (xp := xp) st rd (by cases rd <;> exact ok))
    | _ => cases rd <;> exact False.elim ok
  | sub =>
    cases rd with
    | int i =>
      cases re with
      | int j => exact op_sub pins s σ H _ _ v u Q I rx ry ⟨i, j, rfl, rfl, ok.val st (.int _)⟩
      | _ => exact False.elim ok
    | _ => exact False.elim ok
  | mul =>
    cases re with
    | int j =>
      cases rd with
      | int i =>
        have ok' : okR X.K (vpost X.K Q) xp al F H (if mulOk i j then .ok (.int (i * j)) h else .bad) := ok
        by_cases z : mulOk i j = true
        · rw [if_pos z] at ok'
          rcases wide_mulOk z with z | z
          · exact op_mul pins s σ H _ _ v u Q I rx ry ⟨i, j, rfl, rfl, z, ok'.val st (.int _)⟩
          · exact op_mulW pins s σ H _ _ v u Q I rx ry ⟨i, j, rfl, rfl, z, ok'.val st (.int _)⟩
        · rw [if_neg z] at ok'; exact False.elim ok'
      | str a ha =>
        have ok' : okR X.K (vpost X.K Q) xp al F H (if -(2 ^ 62) ≤ j ∧ j < 2 ^ 62 ∧ a.length * j.toNat ≤ SZ then .ok (.str (List.replicate j.toNat a).flatten) h else .bad) := ok
        by_cases z : -(2 ^ 62) ≤ j ∧ j < 2 ^ 62 ∧ a.length * j.toNat ≤ SZ
        · rw [if_pos z] at ok'
          obtain ⟨tx, rfl⟩ := rx
          obtain ⟨ty, rfl⟩ := ry
          refine PySem.SB.mul (mulOk_str z) fun t' k' => ?_
          refine ⟨.str (mkS (List.replicate j.toNat a).flatten), H, I.kept (t' := k') fun _ _ q => q, ⟨t', by rw [txt_mul]⟩, ok'.val st (.str _ (ha.rep z.2.2))⟩
        · rw [if_neg z] at ok'; exact False.elim ok'
      | tup h1 h2 =>
        rename_i a vs ds
        have ok' : okR X.K (vpost X.K Q) xp al F H (if ds.isEmpty = false ∧ 2 ≤ j ∧ j ≤ 1000 ∧ ds.length ≤ 1000 then .ok (.tup (List.replicate j.toNat ds).flatten) h else .bad) := ok
        by_cases z : ds.isEmpty = false ∧ 2 ≤ j ∧ j ≤ 1000 ∧ ds.length ≤ 1000
        · rw [if_pos z] at ok'
          refine op_repT pins s σ H _ _ v u Q I rx ry ⟨a, j, vs, rfl, rfl, SqT.mono st.sub h1, fun w => ?_, z.2.1, z.2.2.1, by rw [h2.length]; exact z.2.2.2, ok'.newT st (rps_rep h2 _)⟩
          subst w
          cases h2
          simp at z
        · rw [if_neg z] at ok'; exact False.elim ok'
      | lst h1 h2 => exact op_rep pins s σ H _ _ v u Q I rx ry (bin_rep (xp := xp) st (.lst h1 h2) ok)
      | loc h1 => exact op_rep pins s σ H _ _ v u Q I rx ry (bin_rep (xp := xp) st (.loc h1) ok)
      | _ => exact False.elim ok
    | _ => cases rd <;> exact False.elim ok
  | fdiv =>
    cases rd with
    | int i =>
      cases re with
      | int j =>
        have ok' : okR X.K (vpost X.K Q) xp al F H (if divOk j then .ok (.int (i / j)) h else .bad) := ok
        by_cases z : divOk j = true
        · rw [if_pos z] at ok'
          unfold divOk at z
          simp only [Bool.and_eq_true, decide_eq_true_eq] at z
          exact op_fdivW pins s σ H _ _ v u Q I rx ry ⟨i, j, rfl, rfl, wide_div z.1 z.2 (by decide) (by decide), ok'.val st (.int _)⟩
        · rw [if_neg z] at ok'; exact False.elim ok'
      | _ => exact False.elim ok
    | _ => exact False.elim ok
  | mod =>
    cases rd with
    | int i =>
      cases re with
      | int j =>
        have ok' : okR X.K (vpost X.K Q) xp al F H (if 0 < j then .ok (.int (i % j)) h else .bad) := ok
        by_cases z : 0 < j
        · rw [if_pos z] at ok'
          exact op_mod pins s σ H _ _ v u Q I rx ry ⟨i, j, rfl, rfl, z, ok'.val st (.int _)⟩
        · rw [if_neg z] at ok'; exact False.elim ok'
      | _ => exact False.elim ok
    | _ => exact False.elim ok
  | pow =>
    cases rd with
    | int i =>
      cases re with
      | int j =>
        have ok' : okR X.K (vpost X.K Q) xp al F H (if 0 ≤ j ∧ j ≤ 1000000 ∧ i.natAbs < 2 ^ 64 then .ok (.int (i ^ j.toNat)) h else .bad) := ok
        by_cases z : 0 ≤ j ∧ j ≤ 1000000 ∧ i.natAbs < 2 ^ 64
        · rw [if_pos z] at ok'
          exact op_pow pins s σ H _ _ v u Q I rx ry ⟨i, j, rfl, rfl, z, ok'.val st (.int _)⟩
        · rw [if_neg z] at ok'; exact False.elim ok'
      | _ => exact False.elim ok
    | _ => exact False.elim ok

/-- x op= y: ints and texts by + and -, ints by * -/
def augOk : BOp → Bool
  | .add => true | .sub => true | .mul => true | _ => false
def rAug (K : PySem.W.Frag) (op : BOp) : R2 := fun x y H Q => ∃ al F h d e xp, StR K al F H h ∧ Rp K al F x d ∧ Rp K al F y e ∧ (∀ n, d ≠ .loc n) ∧ (∀ xs, d ≠ .lst xs) ∧ (∀ xs, d ≠ .tup xs) ∧ (op = .mul → ∀ xs, d ≠ .str xs) ∧ okR K (vpost K Q) xp al F H (binD op d e h)
theorem opr_aug (op : BOp) (hop : augOk op = true) : OpR X (inplaceOp (opOf op)) (rAug X.K op) := by
  intro pins s σ H x y v u Q I rx ry hr
  obtain ⟨al, F, h, d, e, xp, st, rd, re, n1, n2, n3, n4, ok⟩ := hr
  cases op with
  | add =>
    cases rd with
    | int i =>
      cases re with
      | int j => exact iop_add pins s σ H _ _ v u Q I rx ry ⟨i, j, rfl, rfl, ok.val st (.int _)⟩
      | _ => exact False.elim ok
    | str a ha =>
      cases re with
      | str b hb =>
        have ok' : okR X.K (vpost X.K Q) xp al F H (if SZok (a.length + b.length) then .ok (.str (a ++ b)) h else .bad) := ok
        by_cases z : SZok (a.length + b.length) = true
        · rw [if_pos z] at ok'
          have z' := SZok_iff.mp z
          refine iop_add_str pins s σ H _ _ v u Q I rx ry ⟨_, _, rfl, rfl, by rw [mkS_len, mkS_len, SZ_eq]; exact z', ?_⟩
          rw [mkS_app]
          exact ok'.val st (.str _ (ha.app hb z'))
        · rw [if_neg z] at ok'; exact False.elim ok'
      | _ => exact False.elim ok
    | tup h1 h2 => exact absurd rfl (n3 _)
    | lst h1 h2 => exact absurd rfl (n2 _)
    | loc h1 => exact absurd rfl (n1 _)
    | non => exact False.elim ok
    | bl b => exact False.elim ok
  | sub =>
    cases rd with
    | int i =>
      cases re with
      | int j => exact iop_sub pins s σ H _ _ v u Q I rx ry ⟨i, j, rfl, rfl, ok.val st (.int _)⟩
      | _ => exact False.elim ok
    | _ => exact False.elim ok
  | mul =>
    cases re with
    | int j =>
      cases rd with
      | int i =>
        have ok' : okR X.K (vpost X.K Q) xp al F H (if mulOk i j then .ok (.int (i * j)) h else .bad) := ok
        by_cases z : mulOk i j = true
        · rw [if_pos z] at ok'
          rcases wide_mulOk z with z | z
          · exact iop_mul pins s σ H _ _ v u Q I rx ry ⟨i, j, rfl, rfl, z, ok'.val st (.int _)⟩
          · obtain ⟨t, rfl⟩ := rx
            obtain ⟨t', rfl⟩ := ry
            exact imul_int ⟨.int (i * j), H, I.tok _, ⟨_, rfl⟩, ok'.val st (.int _)⟩ z.ok
        · rw [if_neg z] at ok'; exact False.elim ok'
      | lst h1 h2 => exact absurd rfl (n2 _)
      | loc h1 => exact absurd rfl (n1 _)
      | str a ha => exact absurd rfl (n4 rfl _)
      | tup h1 h2 => exact absurd rfl (n3 _)
      | _ => exact False.elim ok
    | _ => cases rd <;> exact False.elim ok
  | _ => cases hop

/-! ### comparisons -/
def cOf : COp → CmpOp
  | .eq => .Eq | .ne => .NotEq | .lt => .Lt | .le => .LtE | .gt => .Gt | .ge => .GtE | .inn => .In | .nin => .NotIn
theorem cmp_eq {x y : V} {d e : Dv} (st : StR X.K al F H h) (rd : Rp X.K al F x d) (re : Rp X.K al F y e)
    (ok : okR X.K (vpost X.K Q) xp al F H (if shapeB (plainD h d) && shapeB (plainD h e) then .ok (.bl (eqD (plainD h d) (plainD h e))) h else .bad)) : rEqD X.K x y H Q := by
  by_cases z : (shapeB (plainD h d) && shapeB (plainD h e)) = true
  · rw [if_pos z] at ok
    simp only [Bool.and_eq_true] at z
    obtain ⟨a1, a2, n, a3⟩ := plain_dp st rd z.1
    obtain ⟨b1, b2, m, b3⟩ := plain_dp st re z.2
    refine ⟨_, _, a1, b1, a2, b2, ?_⟩
    rw [eqvP _ _ a3 b3]
    exact ok.val st (.bl _)
  · rw [if_neg z] at ok; exact False.elim ok
theorem cmp_ne {x y : V} {d e : Dv} (st : StR X.K al F H h) (rd : Rp X.K al F x d) (re : Rp X.K al F y e)
    (ok : okR X.K (vpost X.K Q) xp al F H (if shapeB (plainD h d) && shapeB (plainD h e) then .ok (.bl (!eqD (plainD h d) (plainD h e))) h else .bad)) : rNeD X.K x y H Q := by
  by_cases z : (shapeB (plainD h d) && shapeB (plainD h e)) = true
  · rw [if_pos z] at ok
    simp only [Bool.and_eq_true] at z
    obtain ⟨a1, a2, n, a3⟩ := plain_dp st rd z.1
    obtain ⟨b1, b2, m, b3⟩ := plain_dp st re z.2
    refine ⟨_, _, a1, b1, a2, b2, ?_⟩
    rw [eqvP _ _ a3 b3]
    exact ok.val st (.bl _)
  · rw [if_neg z] at ok; exact False.elim ok
theorem cmp_in {x : V} {p : Addr} {d : Dv} {vs : List V} {ys : List Dv} {neg : Bool} (st : StR X.K al F H h) (rd : Rp X.K al F x d) (hs : SqL X.K H p vs ∨ SqT X.K H p vs) (rs : Rps X.K al F vs ys)
    (ok : okR X.K (vpost X.K Q) xp al F H (if flatD d && ys.all flatD then .ok (.bl (if neg then !ys.any fun y => eqD y d else ys.any fun y => eqD y d)) h else .bad)) : rIn X.K neg x (.ref p) H Q := by
  by_cases z : (flatD d && ys.all flatD) = true
  · rw [if_pos z] at ok
    simp only [Bool.and_eq_true] at z
    refine ⟨p, vs, rfl, hs, rd.flat z.1, rs.flat z.2, ?_⟩
    rw [inV_D rd z.1 rs z.2]
    exact ok.val st (.bl _)
  · rw [if_neg z] at ok; exact False.elim ok
theorem cmp_inL {x y : V} {d e : Dv} {neg : Bool} (st : StR X.K al F H h) (rd : Rp X.K al F x d) (re : Rp X.K al F y e)
    (ok : okR X.K (vpost X.K Q) xp al F H (match lstOf h e with
      | some ys => if flatD d && ys.all flatD then .ok (.bl (if neg then !ys.any fun y => eqD y d else ys.any fun y => eqD y d)) h else .bad
      | none => .bad)) : rIn X.K neg x y H Q := by
  cases q : lstOf h e with
  | none => rw [q] at ok; exact False.elim ok
  | some ys =>
    rw [q] at ok
    obtain ⟨a, vs, rfl, ha, ra⟩ := st.seqL re q
    exact cmp_in st rd (.inl ha) ra ok

/-! ### dicts -/
theorem beqK_iff {a b : Ky} : beqK a b = true ↔ a.key = b.key := by
  cases a with
  | int i =>
    cases b with
    | int j => simp [beqK, Ky.key]
    | str s => simp [beqK, Ky.key]
  | str s =>
    cases b with
    | int j => simp [beqK, Ky.key]
    | str t => simp [beqK, Ky.key]
theorem ky_V {K : PySem.W.Frag} {v : V} {d : Dv} {k : Ky} (r : Rp K al F v d) (e : kyOf d = some k) : v = kV k.key := by
  cases r <;> simp only [kyOf, Option.some.injEq, reduceCtorEq] at e <;> subst e <;> rfl
theorem dr_get {K : PySem.W.Frag} (k : Ky) : ∀ {ws : List (Key × V)} {kvs : List (Ky × Dv)}, ws.map (·.1) = kvs.map (fun p => p.1.key) → Rps K al F (ws.map (·.2)) (kvs.map (·.2)) →
    (getY k kvs = none ∧ valV ws k.key = none) ∨ ∃ d v, getY k kvs = some d ∧ valV ws k.key = some v ∧ Rp K al F v d
  | [], [], _, _ => .inl ⟨rfl, rfl⟩
  | [], _ :: _, e, _ => by simp at e
  | _ :: _, [], e, _ => by simp at e
  | (a, v) :: ws, (b, d) :: kvs, e, r => by
    simp only [List.map_cons, List.cons.injEq] at e
    simp only [List.map_cons] at r
    cases r with
    | cons r1 r2 =>
      by_cases z : beqK b k = true
      · refine .inr ⟨d, v, ?_, ?_, r1⟩
        · rw [getY, if_pos z]
        · exact valV_pos (e.1.trans (beqK_iff.mp z))
      · have z2 : ¬ a = k.key := fun q => z (beqK_iff.mpr (e.1.symm.trans q))
        rw [getY, if_neg z, valV_neg (p := (a, v)) z2]
        exact dr_get k e.2 r2
theorem dr_map {K : PySem.W.Frag} (k : Ky) {v : V} {d : Dv} (rv : Rp K al F v d) : ∀ {ws : List (Key × V)} {kvs : List (Ky × Dv)}, ws.map (·.1) = kvs.map (fun p => p.1.key) → Rps K al F (ws.map (·.2)) (kvs.map (·.2)) →
    (ws.map fun p => if p.1 = k.key then (p.1, v) else p).map (·.1) = (kvs.map fun p => if beqK p.1 k then (p.1, d) else p).map (fun p => p.1.key) ∧
    Rps K al F ((ws.map fun p => if p.1 = k.key then (p.1, v) else p).map (·.2)) ((kvs.map fun p => if beqK p.1 k then (p.1, d) else p).map (·.2))
  | [], [], _, _ => ⟨rfl, .nil⟩
  | [], _ :: _, e, _ => by simp at e
  | _ :: _, [], e, _ => by simp at e
  | (a, w) :: ws, (b, c) :: kvs, e, r => by
    simp only [List.map_cons, List.cons.injEq] at e
    simp only [List.map_cons] at r
    cases r with
    | cons r1 r2 =>
      obtain ⟨i1, i2⟩ := dr_map k rv e.2 r2
      by_cases z : beqK b k = true
      · have z2 : a = k.key := e.1.trans (beqK_iff.mp z)
        simp only [List.map_cons, if_pos z, if_pos z2, List.cons.injEq]
        exact ⟨⟨e.1, i1⟩, .cons rv i2⟩
      · have z2 : ¬ a = k.key := fun q => z (beqK_iff.mpr (e.1.symm.trans q))
        simp only [List.map_cons, if_neg z, if_neg z2, List.cons.injEq]
        exact ⟨⟨e.1, i1⟩, .cons r1 i2⟩
theorem dr_put {K : PySem.W.Frag} (k : Ky) {v : V} {d : Dv} (rv : Rp K al F v d) {ws : List (Key × V)} {kvs : List (Ky × Dv)} (e : ws.map (·.1) = kvs.map (fun p => p.1.key)) (r : Rps K al F (ws.map (·.2)) (kvs.map (·.2))) :
    (L2.putK ws k.key v).map (·.1) = (putY k d kvs).map (fun p => p.1.key) ∧ Rps K al F ((L2.putK ws k.key v).map (·.2)) ((putY k d kvs).map (·.2)) := by
  unfold L2.putK putY
  rw [valV_any]
  rcases dr_get k e r with ⟨g1, g2⟩ | ⟨c, w, g1, g2, _⟩
  · rw [g1, g2, if_neg (by decide), if_neg (by decide)]
    simp only [List.map_append, List.map_cons, List.map_nil, e]
    exact ⟨trivial, r.append (.cons rv .nil)⟩
  · rw [g1, g2, if_pos (show (some w).isSome = true from rfl), if_pos (show (some c).isSome = true from rfl)]
    exact dr_map k rv e r
theorem dct_at {K : PySem.W.Frag} {v : V} {d : Dv} {kvs : List (Ky × Dv)} (st : StR K al F H h) (r : Rp K al F v d) (e : dctOf h d = some kvs) :
    ∃ n a ws, d = .loc n ∧ v = .ref a ∧ al[n]? = some a ∧ h[n]? = some (.dct kvs) ∧ F a = none ∧ H a = some (.dK ws) ∧ ws.map (·.1) = kvs.map (fun p => p.1.key) ∧ Rps K al F (ws.map (·.2)) (kvs.map (·.2)) := by
  cases r with
  | @loc a n q =>
    cases z : h[n]? with
    | none => simp [dctOf, z] at e
    | some c =>
      cases c with
      | dct ks =>
        simp only [dctOf, z, Option.some.injEq] at e
        subst e
        obtain ⟨c0, ws, c1, c2, c3⟩ := st.cell n a _ q z
        exact ⟨n, a, ws, rfl, rfl, q, z, c0, c1, c2, c3⟩
      | _ => simp [dctOf, z] at e
  | _ => cases e
theorem dget_at {K : PySem.W.Frag} {v w : V} {d i : Dv} {kvs : List (Ky × Dv)} {k : Ky} (st : StR K al F H h) (r : Rp K al F v d) (e : dctOf h d = some kvs) (ri : Rp K al F w i) (ei : kyOf i = some k) :
    ∃ a o, v = .ref a ∧ DGet H a w o ∧ ((getY k kvs = none ∧ o = none) ∨ ∃ c z, getY k kvs = some c ∧ o = some z ∧ Rp K al F z c) := by
  obtain ⟨n, a, ws, _, rfl, _, _, _, c1, c2, c3⟩ := dct_at st r e
  refine ⟨a, valV ws k.key, rfl, ?_, ?_⟩
  · rw [ky_V ri ei]
    exact DGet.k c1
  · rcases dr_get k c2 c3 with ⟨g1, g2⟩ | ⟨c, z, g1, g2, g3⟩
    · exact .inl ⟨g1, g2⟩
    · exact .inr ⟨c, z, g1, g2, g3⟩
theorem isSome_at {k : Ky} {kvs : List (Ky × Dv)} {o : Option V} {R : V → Dv → Prop} (q : (getY k kvs = none ∧ o = none) ∨ ∃ c z, getY k kvs = some c ∧ o = some z ∧ R z c) : (getY k kvs).isSome = o.isSome := by
  rcases q with ⟨a, b⟩ | ⟨c, z, a, b, _⟩ <;> rw [a, b] <;> rfl
theorem opr_cmpS (op : COp) (hu : X.A.units + 64 < cLine) {pins : List (Addr × Obj)} {s : Shared} {σ : L2.St} {x y : V} {v u : Value} (I : L2.Inv X pins σ H s) (rx : RelV x v) (ry : RelV y u) {d e : Dv} (st : StR X.K al F H h) (rd : Rp X.K al F x d) (re : Rp X.K al F y e) (ok : okR X.K (vpost X.K Q) xp al F H (cmpS op d e h)) :
    wpAny (model X.prog X.w) X.A (compareOp (cOf op) v u) (EP X pins σ Q) X.xe s := by
  cases op with
  | eq => exact op_eqD hu pins s σ H _ _ v u Q I rx ry (cmp_eq (xp := xp) st rd re (by cases d <;> cases e <;> exact ok))
  | ne => exact op_neD hu pins s σ H _ _ v u Q I rx ry (cmp_ne (xp := xp) st rd re (by cases d <;> cases e <;> exact ok))
  | lt =>
    cases rd with
    | int i =>
      cases re with
      | int j => exact op_lt pins s σ H _ _ v u Q I rx ry ⟨i, j, rfl, rfl, ok.val st (.bl _)⟩
      | _ => exact False.elim ok
    | str a ha =>
      cases re with
      | str b hb => exact op_lt_str pins s σ H _ _ v u Q I rx ry ⟨_, _, rfl, rfl, ok.val st (.bl _)⟩
      | _ => exact False.elim ok
    | _ => cases re <;> exact False.elim ok
  | le =>
    cases rd with
    | int i =>
      cases re with
      | int j => exact op_le pins s σ H _ _ v u Q I rx ry ⟨i, j, rfl, rfl, ok.val st (.bl _)⟩
      | _ => exact False.elim ok
    | str a ha =>
      cases re with
      | str b hb => exact op_le_str pins s σ H _ _ v u Q I rx ry ⟨_, _, rfl, rfl, ok.val st (.bl _)⟩
      | _ => exact False.elim ok
    | _ => cases re <;> exact False.elim ok
  | gt =>
    cases rd with
    | int i =>
      cases re with
      | int j => exact op_gt pins s σ H _ _ v u Q I rx ry ⟨i, j, rfl, rfl, ok.val st (.bl _)⟩
      | _ => exact False.elim ok
    | str a ha =>
      cases re with
      | str b hb => exact op_gt_str pins s σ H _ _ v u Q I rx ry ⟨_, _, rfl, rfl, ok.val st (.bl _)⟩
      | _ => exact False.elim ok
    | _ => cases re <;> exact False.elim ok
  | ge =>
    cases rd with
    | int i =>
      cases re with
      | int j => exact op_ge pins s σ H _ _ v u Q I rx ry ⟨i, j, rfl, rfl, ok.val st (.bl _)⟩
      | _ => exact False.elim ok
    | str a ha =>
      cases re with
      | str b hb => exact op_ge_str pins s σ H _ _ v u Q I rx ry ⟨_, _, rfl, rfl, ok.val st (.bl _)⟩
      | _ => exact False.elim ok
    | _ => cases re <;> exact False.elim ok
  | inn =>
    cases re with
    | str a ha =>
      cases rd with
      | str b hb =>
        refine op_in_str pins s σ H _ _ v u Q I rx ry ⟨_, _, rfl, rfl, ?_⟩
        rw [sub_D]
        exact ok.val st (.bl _)
      | _ => exact False.elim ok
    | tup h1 h2 => exact op_in_seq pins s σ H _ _ v u Q I rx ry (cmp_in (xp := xp) (neg := false) st rd (.inr (SqT.mono st.sub h1)) h2 (by cases d <;> exact ok))
    | lst h1 h2 => exact op_in_seq pins s σ H _ _ v u Q I rx ry (cmp_inL (xp := xp) (neg := false) st rd (.lst h1 h2) (by cases d <;> exact ok))
    | loc h1 => exact op_in_seq pins s σ H _ _ v u Q I rx ry (cmp_inL (xp := xp) (neg := false) st rd (.loc h1) (by cases d <;> exact ok))
    | _ => cases d <;> exact False.elim ok
  | nin =>
    cases re with
    | str a ha =>
      cases rd with
      | str b hb =>
        refine op_notin_str pins s σ H _ _ v u Q I rx ry ⟨_, _, rfl, rfl, ?_⟩
        rw [sub_D]
        exact ok.val st (.bl _)
      | _ => exact False.elim ok
    | tup h1 h2 => exact op_notIn_seq pins s σ H _ _ v u Q I rx ry (cmp_in (xp := xp) (neg := true) st rd (.inr (SqT.mono st.sub h1)) h2 (by cases d <;> exact ok))
    | lst h1 h2 => exact op_notIn_seq pins s σ H _ _ v u Q I rx ry (cmp_inL (xp := xp) (neg := true) st rd (.lst h1 h2) (by cases d <;> exact ok))
    | loc h1 => exact op_notIn_seq pins s σ H _ _ v u Q I rx ry (cmp_inL (xp := xp) (neg := true) st rd (.loc h1) (by cases d <;> exact ok))
    | _ => cases d <;> exact False.elim ok

theorem opr_cmp (op : COp) (hu : X.A.units + 64 < cLine) : OpR X (compareOp (cOf op)) (rCmp X.K op) := by
  intro pins s σ H x y v u Q I rx ry hr
  obtain ⟨al, F, h, d, e, xp, st, rd, re, ok⟩ := hr
  have plain : okR X.K (vpost X.K Q) xp al F H (cmpS op d e h) → wpAny (model X.prog X.w) X.A (compareOp (cOf op) v u) (EP X pins σ Q) X.xe s := fun o => opr_cmpS op hu I rx ry st rd re o
  unfold cmpD at ok
  cases q : dctOf h e with
  | none =>
    rw [q] at ok
    exact plain (by cases op <;> exact ok)
  | some kvs =>
    cases q2 : kyOf d with
    | none =>
      rw [q, q2] at ok
      exact plain (by cases op <;> exact ok)
    | some k =>
      rw [q, q2] at ok
      cases op with
      | inn =>
        obtain ⟨a, o, rfl, g, z⟩ := dget_at st re q rd q2
        cases ry
        refine d_in (by omega) I g rx fun s' I' => ⟨.bl o.isSome, H, I', rfl, ?_⟩
        rw [← isSome_at z]
        exact ok.val st (.bl _)
      | nin =>
        obtain ⟨a, o, rfl, g, z⟩ := dget_at st re q rd q2
        cases ry
        refine d_notIn (by omega) I g rx fun s' I' => ⟨.bl (!o.isSome), H, I', rfl, ?_⟩
        rw [← isSome_at z]
        exact ok.val st (.bl _)
      | _ => exact plain ok

/-! ### negation, subscripts, slices -/
def rNeg (K : PySem.W.Frag) : V → Hp → VK → Prop := fun x H Q => ∃ al F h d xp, StR K al F H h ∧ Rp K al F x d ∧ okR K (vpost K Q) xp al F H (negD d h)
theorem unr_neg : UnR X (unaryOp .USub) (rNeg X.K) := by
  intro pins s σ H x v Q I rx hr
  obtain ⟨al, F, h, d, xp, st, rd, ok⟩ := hr
  cases rd with
  | int i => exact un_neg pins s σ H _ v Q I rx ⟨i, rfl, ok.val st (.int _)⟩
  | _ => exact False.elim ok
def rIdx (K : PySem.W.Frag) : R2 := fun x y H Q => ∃ al F h d e xp, StR K al F H h ∧ Rp K al F x d ∧ Rp K al F y e ∧ okR K (vpost K Q) xp al F H (idxD d e h)
theorem atI_R {K : PySem.W.Frag} {vs : List V} {ds : List Dv} {i : Int} {c : Dv} (r : Rps K al F vs ds) (e : atI ds i = some c) : ∃ v, atI vs i = some v ∧ Rp K al F v c := by
  unfold atI at e ⊢
  rw [r.length]
  cases q : ixN ds.length i with
  | none => rw [q] at e; cases e
  | some j =>
    rw [q] at e
    exact r.get e
theorem ix_dct {value slice : Expr} {pins : List (Addr × Obj)} {s : Shared} {σ : L2.St} {a : Addr} {y z : V} {u : Value} (hu : X.A.units + 1 < cLine) (I : L2.Inv X pins σ H s) (ry : RelV y u) (g : DGet H a y (some z)) (hs : subscripted slice false (.ref a) u = operate [.ref a, u] (getItem (.ref a) u)) (q : Q z H) :
    wpAny (model X.prog X.w) X.A (subscriptTail value slice (.ref a) u) (EP X pins σ Q) X.xe s := by
  have hT := dict_typeIs I g
  unfold subscriptTail
  refine wpAny_bind ?_
  rw [getitemInPython_of_ne hT.not_modules]
  refine wpAny_bind (wpAny_specialOf hT PySem.F.slot_dict_getitem.lookup ?_)
  have fin : wpAny (model X.prog X.w) X.A (subscripted slice false (.ref a) u) (fun r s3 => wpAny (model X.prog X.w) X.A (letTemporaryGo value (.ref a) r >>= fun _ => pure r) (EP X pins σ Q) X.xe s3) X.xe s := by
    rw [hs]
    refine wpAny_operating (d_getItem hu I g ry fun w' s' I' rw' => ?_)
    exact wpAny_bind (wpAny_letTemporaryGo (wpAny_pure ⟨z, H, I', rw', q⟩))
  first
    | exact wpAny_pure (wpAny_bind fin)
    | exact wpAny_bind (wpAny_pure (wpAny_bind fin))
    | exact wpAny_bind fin
theorem ixr (hu : X.A.units + 64 < cLine) : IxR X (rIdx X.K) := by
  intro value slice pins s σ H x y v u Q I rx ry hr hs
  obtain ⟨al, F, h, d, e, xp, st, rd, re, ok⟩ := hr
  unfold idxD at ok
  cases qd : dctOf h d with
  | some kvs =>
    rw [qd] at ok
    dsimp only at ok
    cases qk : kyOf e with
    | none => rw [qk] at ok; exact False.elim ok
    | some k =>
      rw [qk] at ok
      dsimp only at ok
      obtain ⟨a, o, rfl, g, z⟩ := dget_at st rd qd re qk
      rcases z with ⟨z1, z2⟩ | ⟨c, w, z1, z2, z3⟩
      · rw [z1] at ok; exact False.elim ok
      · rw [z1] at ok
        rw [z2] at g
        cases rx
        exact ix_dct (by omega) I ry g hs (ok.val st z3)
  | none =>
  rw [qd] at ok
  dsimp only at ok
  refine ix_seq value slice pins s σ H x y v u Q I rx ry ?_ hs
  have lists : ∀ {d : Dv} {i : Int}, Rp X.K al F x d → okR X.K (vpost X.K Q) xp al F H (match lstOf h d with
      | some xs => (match atD xs i with
        | some c => .ok c h
        | none => .bad)
      | none => .bad) → rIx X.K x (.int i) H Q := fun {d i} rd ok => by
    cases q : lstOf h d with
    | none => rw [q] at ok; exact False.elim ok
    | some xs =>
      rw [q] at ok
      dsimp only at ok
      cases q2 : atD xs i with
      | none => rw [q2] at ok; exact False.elim ok
      | some c =>
        rw [q2] at ok
        obtain ⟨a, vs, rfl, ha, ra⟩ := st.seqL rd q
        obtain ⟨w, hw, rw'⟩ := atI_R ra q2
        exact .inl ⟨a, vs, i, w, rfl, rfl, ha, hw, ok.val st rw'⟩
  cases re with
  | int i =>
    cases rd with
    | str a ha =>
      have ok' : okR X.K (vpost X.K Q) xp al F H (match atD a i with
        | some c => .ok (.str [c]) h
        | none => .bad) := ok
      cases q : atD a i with
      | none => rw [q] at ok'; exact False.elim ok'
      | some c =>
        rw [q] at ok'
        refine .inr (.inr ⟨_, i, c, rfl, rfl, by rw [mkS_len, SZ_eq]; exact ha.len, by rw [mkS_cps]; exact q, ok'.val st (.str [c] (ok_one ha q))⟩)
    | tup h1 h2 =>
      rename_i a vs ds
      have ok' : okR X.K (vpost X.K Q) xp al F H (match atD ds i with
        | some c => .ok c h
        | none => .bad) := ok
      cases q : atD ds i with
      | none => rw [q] at ok'; exact False.elim ok'
      | some c =>
        rw [q] at ok'
        obtain ⟨w, hw, rw'⟩ := atI_R h2 q
        exact .inr (.inl ⟨a, vs, i, w, rfl, rfl, SqT.mono st.sub h1, hw, ok'.val st rw'⟩)
    | lst h1 h2 => exact lists (.lst h1 h2) ok
    | loc h1 => exact lists (.loc h1) ok
    | _ => exact False.elim ok
  | _ => cases rd <;> exact False.elim ok
def rSl (K : PySem.W.Frag) : V → Option Int → Option Int → Hp → VK → Prop := fun x lo hi H Q => ∃ al F h d xp, StR K al F H h ∧ Rp K al F x d ∧ okR K (vpost K Q) xp al F H (slD d lo hi h)
theorem cut_R {K : PySem.W.Frag} {vs : List V} {ds : List Dv} (r : Rps K al F vs ds) (lo hi : Option Int) : Rps K al F (cutV vs lo hi) (cutD ds lo hi) := by
  unfold cutV cutD
  rw [r.length]
  exact (r.drop _).take _
theorem slr : SlR X (rSl X.K) := by
  intro pins s σ H x v vl vu lo hi sl Q I rx hs pl pu hr
  obtain ⟨al, F, h, d, xp, st, rd, ok⟩ := hr
  have lists : ∀ {d : Dv}, Rp X.K al F x d → okR X.K (vpost X.K Q) xp al F H (match lstOf h d with
      | some xs => .ok (.lst (cutD xs lo hi)) h
      | none => .bad) → rSlL X.K x lo hi H Q := fun {d} rd ok => by
    cases q : lstOf h d with
    | none => rw [q] at ok; exact False.elim ok
    | some xs =>
      rw [q] at ok
      obtain ⟨a, vs, rfl, ha, ra⟩ := st.seqL rd q
      exact ⟨a, vs, rfl, ha, ok.newL st (cut_R ra lo hi)⟩
  cases rd with
  | str a ha =>
    refine sl_str pins s σ H _ v vl vu lo hi sl Q I rx hs pl pu ⟨_, rfl, by rw [mkS_len, SZ_eq]; exact ha.len, ?_⟩
    have e : cutS (mkS a) lo hi = mkS (cutD a lo hi) := by
      unfold cutS cutD
      rw [mkS_len, mkS_cps]
    rw [e]
    exact ok.val st (.str _ (ha.sub (cutD_len a lo hi) fun c hc => cutD_mem hc))
  | tup h1 h2 =>
    rename_i a vs ds
    refine sl_tupA pins s σ H _ v vl vu lo hi sl Q I rx hs pl pu ⟨a, vs, rfl, SqT.mono st.sub h1, fun ⟨q1, q2⟩ => ?_, fun _ => ok.newT st (cut_R h2 lo hi)⟩
    have e : cutD ds lo hi = ds := by
      unfold cutD
      rw [← h2.length, q1, q2]
      simp [h2.length]
    exact ok.val st (by rw [e]; exact .tup h1 h2)
  | lst h1 h2 => exact sl_list pins s σ H _ v vl vu lo hi sl Q I rx hs pl pu (lists (.lst h1 h2) ok)
  | loc h1 => exact sl_list pins s σ H _ v vl vu lo hi sl Q I rx hs pl pu (lists (.loc h1) ok)
  | _ => exact False.elim ok
end
end Dn

set_option Elab.async false
set_option linter.all false
set_option maxRecDepth 100000
set_option maxHeartbeats 1000000
/-! built-in functions and methods keep their word -/
namespace Dn
open PySem PySem.Spec PyProof.Rows L2

def rBI (K : PySem.W.Frag) (f : BI) : List V → Hp → VK → Prop := fun vs H Q => ∃ al F h ds xp, StR K al F H h ∧ Rps K al F vs ds ∧ okR K (vpost K Q) xp al F H (biD f ds h)
def rMT (K : PySem.W.Frag) (f : MT) : V → List V → Hp → VK → Prop := fun x vs H Q => ∃ al F h d ds xp, StR K al F H h ∧ Rp K al F x d ∧ Rps K al F vs ds ∧ okR K (vpost K Q) xp al F H (mtD f d ds h)

theorem blsOf_map : ∀ {xs : List Dv} {bs : List Bool}, blsOf xs = some bs → xs = bs.map Dv.bl
  | [], bs, e => by cases e; rfl
  | .bl b :: r, bs, e => by
    obtain ⟨cs, h1, rfl⟩ := Option.map_eq_some_iff.mp (show (blsOf r).map (b :: ·) = some bs from e)
    rw [blsOf_map h1]; rfl
  | .non :: _, _, e => by cases e
  | .int _ :: _, _, e => by cases e
  | .str _ :: _, _, e => by cases e
  | .tup _ :: _, _, e => by cases e
  | .lst _ :: _, _, e => by cases e
  | .loc _ :: _, _, e => by cases e
theorem intsOf_map : ∀ {xs : List Dv} {bs : List Int}, intsOf xs = some bs → xs = bs.map Dv.int
  | [], bs, e => by cases e; rfl
  | .int b :: r, bs, e => by
    obtain ⟨cs, h1, rfl⟩ := Option.map_eq_some_iff.mp (show (intsOf r).map (b :: ·) = some bs from e)
    rw [intsOf_map h1]; rfl
  | .non :: _, _, e => by cases e
  | .bl _ :: _, _, e => by cases e
  | .str _ :: _, _, e => by cases e
  | .tup _ :: _, _, e => by cases e
  | .lst _ :: _, _, e => by cases e
  | .loc _ :: _, _, e => by cases e
theorem strsOf_map : ∀ {xs : List Dv} {bs : List (List Nat)}, strsOf xs = some bs → xs = bs.map Dv.str
  | [], bs, e => by cases e; rfl
  | .str b :: r, bs, e => by
    obtain ⟨cs, h1, rfl⟩ := Option.map_eq_some_iff.mp (show (strsOf r).map (b :: ·) = some bs from e)
    rw [strsOf_map h1]; rfl
  | .non :: _, _, e => by cases e
  | .bl _ :: _, _, e => by cases e
  | .int _ :: _, _, e => by cases e
  | .tup _ :: _, _, e => by cases e
  | .lst _ :: _, _, e => by cases e
  | .loc _ :: _, _, e => by cases e

/-! ### sorting -/
theorem insI_perm (x : Int) : ∀ l, (insI x l).Perm (x :: l)
  | [] => .refl _
  | y :: r => by
    unfold insI
    split
    · exact .refl _
    · exact ((insI_perm x r).cons y).trans (.swap x y r)
theorem sortI_perm : ∀ l, (sortI l).Perm l
  | [] => .refl _
  | x :: r => (insI_perm x (sortI r)).trans ((sortI_perm r).cons x)
theorem insI_sorted (x : Int) : ∀ l, l.Pairwise (· ≤ ·) → (insI x l).Pairwise (· ≤ ·)
  | [], _ => by simp [insI]
  | y :: r, h => by
    unfold insI
    have h1 := List.pairwise_cons.mp h
    split
    · rename_i hxy
      refine List.pairwise_cons.mpr ⟨fun z hz => ?_, h⟩
      rcases List.mem_cons.mp hz with rfl | hz
      · exact hxy
      · exact Int.le_trans hxy (h1.1 z hz)
    · rename_i hxy
      refine List.pairwise_cons.mpr ⟨fun z hz => ?_, insI_sorted x r h1.2⟩
      rcases List.mem_cons.mp ((insI_perm x r).mem_iff.mp hz) with rfl | hz
      · omega
      · exact h1.1 z hz
theorem sortI_sorted : ∀ l, (sortI l).Pairwise (· ≤ ·)
  | [] => .nil
  | x :: r => insI_sorted x _ (sortI_sorted r)
theorem sortI_unique {l l' : List Int} (hp : l'.Perm l) (hs : l'.Pairwise (· ≤ ·)) : l' = sortI l := PySem.W.ksm_same (hp.trans (sortI_perm l).symm) hs (sortI_sorted l)
/-! texts in their order -/
theorem leS_iff : ∀ (a b : List Nat), leS a b = true ↔ a ≤ b
  | [], b => by simp [leS]
  | a :: s, [] => by simp [leS]
  | a :: s, b :: t => by
    rw [leS, List.cons_le_cons_iff, ← leS_iff s t]
    by_cases z : a < b
    · simp [z]
    · by_cases z2 : b < a
      · simp [z, z2]; omega
      · have : a = b := by omega
        simp [z, z2, this]
theorem insS_perm (x : List Nat) : ∀ l, (insS x l).Perm (x :: l)
  | [] => .refl _
  | y :: r => by
    rw [insS]
    split
    · exact .refl _
    · exact (List.Perm.cons y (insS_perm x r)).trans (.swap x y r)
theorem sortS_perm : ∀ l, (sortS l).Perm l
  | [] => .refl _
  | x :: r => (insS_perm x (sortS r)).trans (.cons x (sortS_perm r))
theorem insS_sorted (x : List Nat) : ∀ l : List (List Nat), l.Pairwise (· ≤ ·) → (insS x l).Pairwise (· ≤ ·)
  | [], _ => by simp [insS]
  | y :: r, h => by
    rw [insS]
    have h2 := List.pairwise_cons.mp h
    by_cases z : leS x y = true
    · rw [if_pos z]
      have xy := (leS_iff x y).mp z
      refine List.pairwise_cons.mpr ⟨fun w hw => ?_, h⟩
      rcases List.mem_cons.mp hw with rfl | hw
      · exact xy
      · exact List.le_trans xy (h2.1 w hw)
    · rw [if_neg z]
      have yx : y ≤ x := by
        rcases List.le_total x y with q | q
        · exact absurd ((leS_iff x y).mpr q) z
        · exact q
      refine List.pairwise_cons.mpr ⟨fun w hw => ?_, insS_sorted x r h2.2⟩
      rcases List.mem_cons.mp ((insS_perm x r).mem_iff.mp hw) with rfl | hw
      · exact yx
      · exact h2.1 w hw
theorem sortS_sorted : ∀ l, (sortS l).Pairwise (· ≤ ·)
  | [] => List.Pairwise.nil
  | x :: r => insS_sorted x _ (sortS_sorted r)
theorem risingS_le : ∀ (p : Str) (l : List Str), risingS p l = true → ((p :: l).map fun s => s.cps.toList).Pairwise (· ≤ ·)
  | p, [], _ => by simp
  | p, x :: r, h => by
    simp only [risingS, Bool.and_eq_true, Bool.not_eq_true'] at h
    have ih := risingS_le x r h.2
    have px : p.cps.toList ≤ x.cps.toList := by
      have q := h.1
      rw [ltCps_eq, decide_eq_false_iff_not] at q
      exact List.not_lt.mp q
    rw [List.map_cons]
    refine List.pairwise_cons.mpr ⟨fun w hw => ?_, ih⟩
    rw [List.map_cons] at hw ih
    rcases List.mem_cons.mp hw with rfl | hw
    · exact px
    · exact List.le_trans px ((List.pairwise_cons.mp ih).1 w hw)
theorem sortedS_le : ∀ (l : List Str), sortedS l = true → (l.map fun s => s.cps.toList).Pairwise (· ≤ ·)
  | [], _ => List.Pairwise.nil
  | x :: r, h => risingS_le x r h
/-- texts that stand in their order: one list alone -/
theorem sortedS_unique {ss : List Str} {ys : List (List Nat)} (hp : ss.Perm (ys.map mkS)) (hs : sortedS ss = true) (hy : ys.Pairwise (· ≤ ·)) : ss = ys.map mkS := by
  have e : ∀ l : List (List Nat), (l.map mkS).map (fun s => s.cps.toList) = l := fun l => by
    rw [List.map_map]
    conv => rhs; rw [← List.map_id l]
    exact List.map_congr_left fun a _ => by simp [mkS]
  have q : ss.map (fun s => s.cps.toList) = ys := by
    refine List.Perm.eq_of_pairwise (le := (· ≤ ·)) (fun a b _ _ h1 h2 => List.le_antisymm h1 h2) (sortedS_le ss hs) hy ?_
    have := hp.map fun s => s.cps.toList
    rwa [e] at this
  rw [← q, List.map_map]
  conv => lhs; rw [← List.map_id ss]
  exact List.map_congr_left fun a _ => by
    show a = mkS a.cps.toList
    simp [mkS]
/-! the signs of a text -/
theorem insN_mem (x c : Nat) : ∀ l, c ∈ insN x l ↔ c = x ∨ c ∈ l
  | [] => by simp [insN]
  | y :: r => by
    rw [insN]
    split
    · simp
    · split
      · rename_i e; subst e; simp
      · rw [List.mem_cons, insN_mem x c r, List.mem_cons]
        constructor
        · rintro (q | q | q)
          · exact .inr (.inl q)
          · exact .inl q
          · exact .inr (.inr q)
        · rintro (q | q | q)
          · exact .inr (.inl q)
          · exact .inl q
          · exact .inr (.inr q)
theorem insN_sorted (x : Nat) : ∀ l : List Nat, l.Pairwise (· < ·) → (insN x l).Pairwise (· < ·)
  | [], _ => by simp [insN]
  | y :: r, h => by
    have h2 := List.pairwise_cons.mp h
    rw [insN]
    by_cases z : x < y
    · rw [if_pos z]
      refine List.pairwise_cons.mpr ⟨fun w hw => ?_, h⟩
      rcases List.mem_cons.mp hw with rfl | hw
      · exact z
      · exact Nat.lt_trans z (h2.1 w hw)
    · rw [if_neg z]
      by_cases z2 : x = y
      · rw [if_pos z2]; exact h
      · rw [if_neg z2]
        refine List.pairwise_cons.mpr ⟨fun w hw => ?_, insN_sorted x r h2.2⟩
        rcases (insN_mem x w r).mp hw with rfl | hw
        · omega
        · exact h2.1 w hw
theorem signs_mem (c : Nat) : ∀ l, c ∈ signs l ↔ c ∈ l
  | [] => by simp [signs]
  | x :: r => by rw [signs, insN_mem, signs_mem c r, List.mem_cons]
theorem signs_sorted : ∀ l, (signs l).Pairwise (· < ·)
  | [] => List.Pairwise.nil
  | x :: r => insN_sorted x _ (signs_sorted r)
theorem oneT_inj {a b : Nat} (h : oneT a = oneT b) : a = b := by
  have q := congrArg (fun s : Str => s.cps.toList) h
  simpa [oneT] using q
theorem metT_signs (l : List Nat) : (metT l []).Perm ((signs l).map oneT) := by
  refine (List.perm_ext_iff_of_nodup (metT_nodup l [] List.nodup_nil) ?_).mpr fun k => ?_
  · refine List.pairwise_map.mpr ((signs_sorted l).imp fun {a b} h e => ?_)
    have := oneT_inj e
    omega
  · rw [metT_mem, List.mem_map]
    constructor
    · rintro (q | ⟨c, hc, q⟩)
      · cases q
      · exact ⟨c, (signs_mem c l).mpr hc, q.symm⟩
    · rintro ⟨c, hc, q⟩
      exact .inr ⟨c, (signs_mem c l).mp hc, q.symm⟩
theorem metT_len (l : List Nat) : (metT l []).length = (signs l).length := by
  rw [(metT_signs l).length_eq, List.length_map]
theorem signs_unique {l : List Nat} {ss : List Str} (hp : ss.Perm (metT l [])) (hs : sortedS ss = true) : ss = (signs l).map fun c => mkS [c] := by
  have e : (signs l).map oneT = ((signs l).map fun c => [c]).map mkS := by
    rw [List.map_map] <;> rfl
  have q := sortedS_unique (ys := (signs l).map fun c => [c]) (by rw [← e]; exact hp.trans (metT_signs l)) hs (by
    refine List.pairwise_map.mpr ((signs_sorted l).imp fun {a b} h => ?_)
    rw [List.cons_le_cons_iff]
    exact .inl h)
  rw [q, List.map_map] <;> rfl

section
variable {X : Cx} {Q : VK} {al : List Addr} {F H : Hp} {h : Hc} {xp : XPost}

theorem rps1 {K : PySem.W.Frag} {vs : List V} {d : Dv} (r : Rps K al F vs [d]) : ∃ v, vs = [v] ∧ Rp K al F v d := by
  cases r with
  | cons r1 r2 => cases r2; exact ⟨_, rfl, r1⟩
theorem biD_nil {f : BI} : biD f [] h = .bad := by cases f <;> rfl
theorem biD_two {f : BI} {a b : Dv} {r : List Dv} : biD f (a :: b :: r) h = .bad := by cases f <;> first | rfl | (cases a <;> rfl)
theorem one_of {K : PySem.W.Frag} {f : BI} {vs : List V} {ds : List Dv} (r : Rps K al F vs ds) (ok : okR K (vpost K Q) xp al F H (biD f ds h)) : ∃ v d, vs = [v] ∧ ds = [d] ∧ Rp K al F v d := by
  match ds, r with
  | [], _ => rw [biD_nil] at ok; exact False.elim ok
  | [d], r => obtain ⟨v, e, q⟩ := rps1 r; exact ⟨v, d, e, rfl, q⟩
  | _ :: _ :: _, _ => rw [biD_two] at ok; exact False.elim ok

theorem callr_len : CallR X (.builtin "len") (rBI X.K .len) := by
  intro pins s σ H xs us Q I r hr
  obtain ⟨al, F, h, ds, xp, st, rs, ok⟩ := hr
  obtain ⟨v, d, rfl, rfl, rd⟩ := one_of rs ok
  have ok' : okR X.K (vpost X.K Q) xp al F H (match lenD h d with
    | some n => .ok (.int n) h
    | none => .bad) := ok
  cases q : lenD h d with
  | none => rw [q] at ok'; exact False.elim ok'
  | some n =>
    rw [q] at ok'
    have fin : Q (.int (n : Int)) H := ok'.val st (.int _)
    have lists : ∀ {ys : List Dv}, lstOf h d = some ys → n = ys.length → wpAny (model X.prog X.w) X.A (call (.builtin "len") us) (EP X pins σ Q) X.xe s := fun {ys} e1 e2 => by
      obtain ⟨a, vs, rfl, ha, ra⟩ := st.seqL rd e1
      exact call_len pins s σ H _ us Q I r ⟨_, n, rfl, .inl ⟨vs, ha, by rw [ra.length, e2]⟩, fin⟩
    cases rd with
    | str a ha =>
      cases q
      exact call_len pins s σ H _ us Q I r ⟨_, _, rfl, ⟨by rw [mkS_len, SZ_eq]; exact ha.len, by rw [mkS_len]⟩, fin⟩
    | tup h1 h2 =>
      cases q
      exact call_len pins s σ H _ us Q I r ⟨_, _, rfl, .inr ⟨_, SqT.mono st.sub h1, h2.length.symm⟩, fin⟩
    | lst h1 h2 => cases q; exact lists rfl rfl
    | @loc a n' h1 =>
      cases q2 : h[n']? with
      | none => simp [lenD, q2] at q
      | some c =>
        simp only [lenD, q2] at q
        cases c with
        | lst ys => cases q; exact lists (by simp only [lstOf, q2]) rfl
        | fz ys => cases q; exact lists (by simp only [lstOf, q2]) rfl
        | scr ys => cases q; exact lists (ys := ys.map .int) (by simp only [lstOf, q2]) (by simp)
        | dct kvs =>
          cases q
          obtain ⟨_, ws, z1, z2, z3⟩ := st.cell n' a _ h1 q2
          have e : ws.length = kvs.length := by simpa using congrArg List.length z2
          exact call_lenD pins s σ H _ us Q I r ⟨a, ws, rfl, z1, by rw [e]; exact fin⟩
    | non => cases q
    | bl _ => cases q
    | int _ => cases q
theorem callr_abs : CallR X (.builtin "abs") (rBI X.K .abs) := by
  intro pins s σ H xs us Q I r hr
  obtain ⟨al, F, h, ds, xp, st, rs, ok⟩ := hr
  obtain ⟨v, d, rfl, rfl, rd⟩ := one_of rs ok
  cases rd with
  | int i => exact call_abs pins s σ H _ us Q I r ⟨i, rfl, ok.val st (.int _)⟩
  | _ => exact False.elim ok
theorem callr_int : CallR X (.type "int") (rBI X.K .int) := by
  intro pins s σ H xs us Q I r hr
  obtain ⟨al, F, h, ds, xp, st, rs, ok⟩ := hr
  obtain ⟨v, d, rfl, rfl, rd⟩ := one_of rs ok
  cases rd with
  | int i => exact call_int1 pins s σ H _ us Q I r (.inl ⟨i, rfl, ok.val st (.int _)⟩)
  | bl b => exact call_int1 pins s σ H _ us Q I r (.inr ⟨b, rfl, ok.val st (.int _)⟩)
  | _ => exact False.elim ok
theorem seq_bls {K : PySem.W.Frag} {v : V} {d : Dv} {bs : List Bool} (st : StR K al F H h) (rd : Rp K al F v d) (e : (lstOf h d).bind blsOf = some bs) : ∃ a, v = .ref a ∧ SqL K H a (bs.map V.bl) := by
  obtain ⟨ys, e1, e2⟩ := Option.bind_eq_some_iff.mp e
  obtain ⟨a, vs, rfl, ha, ra⟩ := st.seqL rd e1
  rw [blsOf_map e2] at ra
  rw [ra.bls] at ha
  exact ⟨a, rfl, ha⟩
theorem seq_ints {K : PySem.W.Frag} {v : V} {d : Dv} {bs : List Int} (st : StR K al F H h) (rd : Rp K al F v d) (e : (lstOf h d).bind intsOf = some bs) : ∃ a, v = .ref a ∧ SqL K H a (bs.map V.int) := by
  obtain ⟨ys, e1, e2⟩ := Option.bind_eq_some_iff.mp e
  obtain ⟨a, vs, rfl, ha, ra⟩ := st.seqL rd e1
  rw [intsOf_map e2] at ra
  rw [ra.ints] at ha
  exact ⟨a, rfl, ha⟩
theorem callr_all (hc : X.calm = true) : CallR X (.builtin "all") (rBI X.K .all) := by
  intro pins s σ H xs us Q I r hr
  obtain ⟨al, F, h, ds, xp, st, rs, ok⟩ := hr
  obtain ⟨v, d, rfl, rfl, rd⟩ := one_of rs ok
  have ok' : okR X.K (vpost X.K Q) xp al F H (match (lstOf h d).bind blsOf with
    | some bs => .ok (.bl (bs.all id)) h
    | none => .bad) := ok
  cases q : (lstOf h d).bind blsOf with
  | none => rw [q] at ok'; exact False.elim ok'
  | some bs =>
    rw [q] at ok'
    obtain ⟨a, rfl, ha⟩ := seq_bls st rd q
    exact cr_all hc pins s σ H _ us Q I r ⟨a, bs, rfl, ha, ok'.val st (.bl _)⟩
theorem callr_any (hc : X.calm = true) : CallR X (.builtin "any") (rBI X.K .any) := by
  intro pins s σ H xs us Q I r hr
  obtain ⟨al, F, h, ds, xp, st, rs, ok⟩ := hr
  obtain ⟨v, d, rfl, rfl, rd⟩ := one_of rs ok
  have ok' : okR X.K (vpost X.K Q) xp al F H (match (lstOf h d).bind blsOf with
    | some bs => .ok (.bl (bs.any id)) h
    | none => .bad) := ok
  cases q : (lstOf h d).bind blsOf with
  | none => rw [q] at ok'; exact False.elim ok'
  | some bs =>
    rw [q] at ok'
    obtain ⟨a, rfl, ha⟩ := seq_bls st rd q
    exact cr_any hc pins s σ H _ us Q I r ⟨a, bs, rfl, ha, ok'.val st (.bl _)⟩
theorem callr_sum (hc : X.calm = true) : CallR X (.builtin "sum") (rBI X.K .sum) := by
  intro pins s σ H xs us Q I r hr
  obtain ⟨al, F, h, ds, xp, st, rs, ok⟩ := hr
  obtain ⟨v, d, rfl, rfl, rd⟩ := one_of rs ok
  have ok' : okR X.K (vpost X.K Q) xp al F H (match (lstOf h d).bind intsOf with
    | some ns => .ok (.int ns.sum) h
    | none => .bad) := ok
  cases q : (lstOf h d).bind intsOf with
  | none => rw [q] at ok'; exact False.elim ok'
  | some bs =>
    rw [q] at ok'
    obtain ⟨a, rfl, ha⟩ := seq_ints st rd q
    exact cr_sum hc pins s σ H _ us Q I r ⟨a, bs, rfl, ha, ok'.val st (.int _)⟩
theorem fold_max : ∀ (ns : List Int) (n m : Int), m ∈ n :: ns → (∀ y ∈ n :: ns, y ≤ m) → m = ns.foldl max n
  | [], n, m, h, _ => by simpa using h
  | k :: ns, n, m, h, hm => by
    show m = ns.foldl max (max n k)
    refine fold_max ns (max n k) m ?_ fun y hy => ?_
    · have h1 := hm n (by simp)
      have h2 := hm k (by simp)
      rcases List.mem_cons.mp h with e | h
      · exact List.mem_cons.mpr (.inl (by omega))
      · rcases List.mem_cons.mp h with e | h
        · exact List.mem_cons.mpr (.inl (by omega))
        · exact List.mem_cons_of_mem _ h
    · have h1 := hm n (by simp)
      have h2 := hm k (by simp)
      rcases List.mem_cons.mp hy with e | hy
      · omega
      · exact hm y (by simp [hy])
theorem fold_min : ∀ (ns : List Int) (n m : Int), m ∈ n :: ns → (∀ y ∈ n :: ns, m ≤ y) → m = ns.foldl min n
  | [], n, m, h, _ => by simpa using h
  | k :: ns, n, m, h, hm => by
    show m = ns.foldl min (min n k)
    refine fold_min ns (min n k) m ?_ fun y hy => ?_
    · have h1 := hm n (by simp)
      have h2 := hm k (by simp)
      rcases List.mem_cons.mp h with e | h
      · exact List.mem_cons.mpr (.inl (by omega))
      · rcases List.mem_cons.mp h with e | h
        · exact List.mem_cons.mpr (.inl (by omega))
        · exact List.mem_cons_of_mem _ h
    · have h1 := hm n (by simp)
      have h2 := hm k (by simp)
      rcases List.mem_cons.mp hy with e | hy
      · omega
      · exact hm y (by simp [hy])
theorem callr_max (hc : X.calm = true) : CallR X (.builtin "max") (rBI X.K .max) := by
  intro pins s σ H xs us Q I r hr
  obtain ⟨al, F, h, ds, xp, st, rs, ok⟩ := hr
  obtain ⟨v, d, rfl, rfl, rd⟩ := one_of rs ok
  have ok' : okR X.K (vpost X.K Q) xp al F H (match (lstOf h d).bind intsOf with
    | some (n :: ns) => .ok (.int (ns.foldl max n)) h
    | _ => .bad) := ok
  cases q : (lstOf h d).bind intsOf with
  | none => rw [q] at ok'; exact False.elim ok'
  | some bs =>
    rw [q] at ok'
    cases bs with
    | nil => exact False.elim ok'
    | cons n ns =>
      obtain ⟨a, rfl, ha⟩ := seq_ints st rd q
      refine cr_max hc pins s σ H _ us Q I r ⟨a, n :: ns, rfl, ha, by simp, fun m h1 h2 => ?_⟩
      rw [fold_max ns n m h1 h2]
      exact ok'.val st (.int _)
theorem callr_min (hc : X.calm = true) : CallR X (.builtin "min") (rBI X.K .min) := by
  intro pins s σ H xs us Q I r hr
  obtain ⟨al, F, h, ds, xp, st, rs, ok⟩ := hr
  obtain ⟨v, d, rfl, rfl, rd⟩ := one_of rs ok
  have ok' : okR X.K (vpost X.K Q) xp al F H (match (lstOf h d).bind intsOf with
    | some (n :: ns) => .ok (.int (ns.foldl min n)) h
    | _ => .bad) := ok
  cases q : (lstOf h d).bind intsOf with
  | none => rw [q] at ok'; exact False.elim ok'
  | some bs =>
    rw [q] at ok'
    cases bs with
    | nil => exact False.elim ok'
    | cons n ns =>
      obtain ⟨a, rfl, ha⟩ := seq_ints st rd q
      refine cr_min hc pins s σ H _ us Q I r ⟨a, n :: ns, rfl, ha, by simp, fun m h1 h2 => ?_⟩
      rw [fold_min ns n m h1 h2]
      exact ok'.val st (.int _)
theorem Rps.strOks {K : PySem.W.Frag} : ∀ {vs : List V} {ns : List (List Nat)}, Rps K al F vs (ns.map Dv.str) → ∀ s ∈ ns, StrOk s
  | _, [], _, s, h => by simp at h
  | _, n :: ns, .cons h hs, s, hm => by
    rcases List.mem_cons.mp hm with rfl | hm
    · exact h.strV.2
    · exact hs.strOks s hm
theorem callr_sorted : CallR X (.builtin "sorted") (rBI X.K .sorted) := by
  intro pins s σ H xs us Q I r hr
  obtain ⟨al, F, h, ds, xp, st, rs, ok⟩ := hr
  obtain ⟨v, d, rfl, rfl, rd⟩ := one_of rs ok
  have ok' : okR X.K (vpost X.K Q) xp al F H (match lstOf h d with
    | some xs => (match intsOf xs, strsOf xs with
      | some ns, _ => .ok (.lst ((sortI ns).map .int)) h
      | _, some ss => if ss.length < 64 then .ok (.lst ((sortS ss).map .str)) h else .bad
      | _, _ => .bad)
    | none => .bad) := ok
  cases q : lstOf h d with
  | none => rw [q] at ok'; exact False.elim ok'
  | some xs =>
    rw [q] at ok'
    dsimp only at ok'
    obtain ⟨a, vs, rfl, ha, ra⟩ := st.seqL rd q
    cases qi : intsOf xs with
    | some ns =>
      rw [qi] at ok'
      have e := intsOf_map qi
      subst e
      rw [ra.ints] at ha
      refine cr_sortedI pins s σ H _ us Q I r ⟨a, ns, rfl, ha, fun ns' p hp hs hn => ?_⟩
      rw [sortI_unique hp hs]
      exact ok'.newL st (.of_ints _) p hn
    | none =>
      rw [qi] at ok'
      cases qs : strsOf xs with
      | none => rw [qs] at ok'; exact False.elim ok'
      | some ss =>
        rw [qs] at ok'
        dsimp only at ok'
        have e := strsOf_map qs
        subst e
        have oks := ra.strOks
        rw [ra.strs] at ha
        by_cases z : ss.length < 64
        · rw [if_pos z] at ok'
          have e2 : ss.map (fun s => V.str (mkS s)) = (ss.map mkS).map V.str := by rw [List.map_map] <;> rfl
          rw [e2] at ha
          refine cr_sortedS pins s σ H _ us Q I r ⟨a, ss.map mkS, rfl, ha, by simpa using z, fun ys p hp hs hn => ?_⟩
          have e3 := sortedS_unique (ys := sortS ss) (hp.trans ((sortS_perm ss).map mkS).symm) hs (sortS_sorted ss)
          rw [e3, List.map_map]
          exact ok'.newL st (.of_strs _ fun s hs => oks s ((sortS_perm ss).mem_iff.mp hs)) p hn
        · rw [if_neg z] at ok'; exact False.elim ok'
theorem callr_tuple : CallR X (.type "tuple") (rBI X.K .tuple) := by
  intro pins s σ H xs us Q I r hr
  obtain ⟨al, F, h, ds, xp, st, rs, ok⟩ := hr
  obtain ⟨v, d, rfl, rfl, rd⟩ := one_of rs ok
  have lists : ∀ {d : Dv}, Rp X.K al F v d → okR X.K (vpost X.K Q) xp al F H (match lstOf h d with
      | some xs => .ok (.tup xs) h
      | none => .bad) → wpAny (model X.prog X.w) X.A (call (.type "tuple") us) (EP X pins σ Q) X.xe s := fun {d} rd ok => by
    cases q : lstOf h d with
    | none => rw [q] at ok; exact False.elim ok
    | some xs =>
      rw [q] at ok
      obtain ⟨a, vs, rfl, ha, ra⟩ := st.seqL rd q
      exact call_tuple_of pins s σ H _ us Q I r ⟨a, vs, rfl, .inl ⟨ha, ok.newT st ra⟩⟩
  cases rd with
  | tup h1 h2 => exact call_tuple_of pins s σ H _ us Q I r ⟨_, _, rfl, .inr ⟨SqT.mono st.sub h1, ok.val st (.tup h1 h2)⟩⟩
  | lst h1 h2 => exact lists (.lst h1 h2) ok
  | loc h1 => exact lists (.loc h1) ok
  | _ => exact False.elim ok

/-! ### list(x) -/
theorem vals_by : ∀ (xs : List V) (us : List Value), xs.length = us.length → (∀ (j : Nat) u, us[j]? = some u → ∃ x, xs[j]? = some x ∧ L2.RelV x u) → Vals xs us
  | [], [], _, _ => .nil
  | [], _ :: _, h, _ => by cases h
  | _ :: _, [], h, _ => by cases h
  | x :: xs, u :: us, h, f => by
    obtain ⟨y, e, r⟩ := f 0 u rfl
    have e' : x = y := Option.some.inj e
    subst e'
    exact .cons r (vals_by xs us (Nat.succ.inj h) fun j w q => f (j + 1) w q)
theorem call_listS (hc : X.calm = true) : CallR X (.type "list") (fun xs H Q => ∃ l : List Nat, xs = [.str (mkS l)] ∧ l.length ≤ SZ ∧ ∀ p, H p = none → Q (.ref p) (upd H p (.lst (l.map fun c => V.str (mkS [c]))))) := by
  intro pins s σ H xs us Q I r hr
  obtain ⟨l, rfl, hl, q⟩ := hr
  obtain ⟨u, rfl, t, rfl⟩ := vals1 r
  have hsz : (mkS l).cps.size = l.length := by simp [mkS]
  refine call_list_str (I.ok.hd hc) (mkS l) t (hn := by rw [hsz, SZ_eq]; exact hl) fun h' tk acc c' hk e hi => ?_
  refine ⟨.ref s.heap.objs.size, upd H s.heap.objs.size (.lst (l.map fun c => V.str (mkS [c]))), I.laid hk (Nat.le_refl _) ⟨by rw [List.length_map, SZ_eq]; exact hl, acc.toList, c', ?_, by rw [Array.toArray_toList]; exact e⟩, rfl, q _ (I.hok.fresh (Nat.le_refl _))⟩
  refine vals_by _ _ (by have h1 := hi.1; rw [hsz] at h1; rw [List.length_map, ← h1, Array.length_toList]) fun j u hj => ?_
  obtain ⟨c, t', hc', rfl⟩ := hi.2 j u (by rw [← Array.getElem?_toList]; exact hj)
  have hc2 : l[j]? = some c := by simpa [mkS] using hc'
  exact ⟨.str (mkS [c]), by rw [List.getElem?_map, hc2]; rfl, ⟨_, rfl⟩⟩
theorem StrOk.one {s : List Nat} (h : StrOk s) {c : Nat} (e : c ∈ s) : StrOk [c] := ⟨by simp [SZ], fun x hx => by
  have : x = c := by simpa using hx
  subst this; exact h.sgn _ e⟩
theorem signs_R {K : PySem.W.Frag} {l : List Nat} (h : StrOk l) : Rps K al F (l.map fun c => V.str (mkS [c])) (l.map fun c => Dv.str [c]) := by
  have := Rps.of_strs (K := K) (al := al) (F := F) (l.map fun c => [c]) (fun s hs => by
    obtain ⟨c, hc, rfl⟩ := List.mem_map.mp hs
    exact h.one hc)
  rw [List.map_map, List.map_map] at this
  exact this
theorem callr_list (hc : X.calm = true) : CallR X (.type "list") (rBI X.K .list) := by
  intro pins s σ H xs us Q I r hr
  obtain ⟨al, F, h, ds, xp, st, rs, ok⟩ := hr
  obtain ⟨v, d, rfl, rfl, rd⟩ := one_of rs ok
  have lists : ∀ {d : Dv}, Rp X.K al F v d → okR X.K (vpost X.K Q) xp al F H (match lstOf h d with
      | some xs => .ok (.lst xs) h
      | none => .bad) → wpAny (model X.prog X.w) X.A (call (.type "list") us) (EP X pins σ Q) X.xe s := fun {d} rd ok => by
    cases q : lstOf h d with
    | none => rw [q] at ok; exact False.elim ok
    | some xs =>
      rw [q] at ok
      obtain ⟨a, vs, rfl, ha, ra⟩ := st.seqL rd q
      exact call_list_of pins s σ H _ us Q I r ⟨a, vs, rfl, .inl ha, ok.newL st ra⟩
  cases rd with
  | str l hs => exact call_listS hc pins s σ H _ us Q I r ⟨l, rfl, hs.len, ok.newL st (signs_R hs)⟩
  | tup h1 h2 => exact call_list_of pins s σ H _ us Q I r ⟨_, _, rfl, .inr (SqT.mono st.sub h1), ok.newL st h2⟩
  | lst h1 h2 => exact lists (.lst h1 h2) ok
  | loc h1 => exact lists (.loc h1) ok
  | _ => exact False.elim ok

theorem callr_listN (hc : X.calm = true) : CallR X (.type "list") (rBI X.K .listN) := by
  intro pins s σ H xs us Q I r hr
  obtain ⟨al, F, h, ds, xp, st, rs, ok⟩ := hr
  obtain ⟨v, d, rfl, rfl, rd⟩ := one_of rs ok
  have lists : ∀ {d : Dv}, Rp X.K al F v d → okR X.K (vpost X.K Q) xp al F H (match lstOf h d with
      | some xs => .ok (.loc h.length) (h ++ [.lst xs])
      | none => .bad) → wpAny (model X.prog X.w) X.A (call (.type "list") us) (EP X pins σ Q) X.xe s := fun {d} rd ok => by
    cases q : lstOf h d with
    | none => rw [q] at ok; exact False.elim ok
    | some xs =>
      rw [q] at ok
      obtain ⟨a, vs, rfl, ha, ra⟩ := st.seqL rd q
      exact call_list_of pins s σ H _ us Q I r ⟨a, vs, rfl, .inl ha, ok.newO st ra⟩
  cases rd with
  | tup h1 h2 => exact call_list_of pins s σ H _ us Q I r ⟨_, _, rfl, .inr (SqT.mono st.sub h1), ok.newO st h2⟩
  | lst h1 h2 => exact lists (.lst h1 h2) ok
  | loc h1 => exact lists (.loc h1) ok
  | _ => exact False.elim ok

/-! ### isinstance -/
def tyS : Ty → String
  | .int => "int" | .str => "str" | .bool => "bool" | .list => "list" | .tuple => "tuple"
theorem kit1 (K : PySem.W.Frag) (t : Ty) : PySem.W.kitOne K (.type "NoneType") (.type (tyS t)) = some false ∧ PySem.W.kitOne K (.type "bool") (.type (tyS t)) = some (decide (t = .int ∨ t = .bool)) ∧
    PySem.W.kitOne K (.type "int") (.type (tyS t)) = some (decide (t = .int)) ∧ PySem.W.kitOne K (.type "str") (.type (tyS t)) = some (decide (t = .str)) ∧
    PySem.W.kitOne K (.type "list") (.type (tyS t)) = some (decide (t = .list)) ∧ PySem.W.kitOne K (.type "tuple") (.type (tyS t)) = some (decide (t = .tuple)) := by
  cases t <;> exact ⟨by kernel_rfl, by kernel_rfl, by kernel_rfl, by kernel_rfl, by kernel_rfl, by kernel_rfl⟩
theorem kitAny2 {K : PySem.W.Frag} {ty a b : Value} {x y : Bool} (h1 : PySem.W.kitOne K ty a = some x) (h2 : PySem.W.kitOne K ty b = some y) : PySem.W.kitAny K ty [a, b] = some (x || y) := by
  simp only [PySem.W.kitAny, h1, h2]
  cases x <;> cases y <;> rfl
def tyD (h : Hc) : Dv → Value
  | .non => .type "NoneType" | .bl _ => .type "bool" | .int _ => .type "int" | .str _ => .type "str" | .tup _ => .type "tuple" | .lst _ => .type "list"
  | .loc n => match h[n]? with
    | some (.dct _) => .type "dict"
    | _ => .type "list"
theorem tyx_of {K : PySem.W.Frag} {v : V} {d : Dv} {t : Ty} {b : Bool} (st : StR K al F H h) (rd : Rp K al F v d) (e : isTy h t d = some b) : TyX K H v (tyD h d) ∧ PySem.W.kitOne K (tyD h d) (.type (tyS t)) = some b := by
  show TyX K H v (tyD h d) ∧ PySem.W.kitOne K (tyD h d) (.type (tyS t)) = some b
  obtain ⟨k1, k2, k3, k4, k5, k6⟩ := kit1 K t
  have sqT : ∀ {a : Addr} {vs : List V}, SqT K H a vs → TyX K H (.ref a) (.type "tuple") := fun {a vs} q => by
    rcases q with (q | ⟨o, q⟩) | ⟨o, its, n, hk, hc, _⟩
    · exact .base (.tup q)
    · exact .fTuple q
    · exact .kTuple hk hc
  have sqL : ∀ {a : Addr} {vs : List V}, SqL K H a vs → TyX K H (.ref a) (.type "list") := fun {a vs} q => by
    rcases q with (q | ⟨o, q⟩) | ⟨o, its, n, hk, hc, _⟩
    · exact .base (.lst q)
    · exact .base (.frz q)
    · exact .kList hk hc
  cases rd with
  | non => refine ⟨.base .non, ?_⟩; show PySem.W.kitOne K (.type "NoneType") (.type (tyS t)) = some b; rw [k1]; cases t <;> exact e
  | bl c => refine ⟨.base (.bl c), ?_⟩; show PySem.W.kitOne K (.type "bool") (.type (tyS t)) = some b; rw [k2]; cases t <;> exact e
  | int i => refine ⟨.base (.int i), ?_⟩; show PySem.W.kitOne K (.type "int") (.type (tyS t)) = some b; rw [k3]; cases t <;> exact e
  | str s hs => refine ⟨.base (.str _), ?_⟩; show PySem.W.kitOne K (.type "str") (.type (tyS t)) = some b; rw [k4]; cases t <;> exact e
  | tup h1 h2 => refine ⟨sqT (SqT.mono st.sub h1), ?_⟩; show PySem.W.kitOne K (.type "tuple") (.type (tyS t)) = some b; rw [k6]; cases t <;> exact e
  | lst h1 h2 => refine ⟨.base (.lst (st.sub _ _ h1)), ?_⟩; show PySem.W.kitOne K (.type "list") (.type (tyS t)) = some b; rw [k5]; cases t <;> exact e
  | @loc a n h1 =>
    cases q : h[n]? with
    | none => simp [isTy, q] at e
    | some c =>
      have lists : ∀ {ys : List Dv}, lstOf h (.loc n) = some ys → (∀ kvs, c ≠ .dct kvs) → TyX K H (.ref a) (tyD h (.loc n)) ∧ PySem.W.kitOne K (tyD h (.loc n)) (.type (tyS t)) = some b := fun {ys} q2 nd => by
        obtain ⟨a', vs, e1, ha, _⟩ := st.seqL (.loc h1) q2
        cases e1
        have e' : b = (t == .list) := by
          cases c with
          | dct kvs => exact absurd rfl (nd kvs)
          | _ => simp only [isTy, q] at e; cases e; rfl
        have t' : tyD h (.loc n) = .type "list" := by
          cases c with
          | dct kvs => exact absurd rfl (nd kvs)
          | _ => simp only [tyD, q]
        rw [t']
        refine ⟨sqL ha, ?_⟩
        rw [k5, e']
        cases t <;> rfl
      cases c with
      | lst xs => exact lists (ys := xs) (by simp only [lstOf, q]) (fun _ z => by cases z)
      | fz xs => exact lists (ys := xs) (by simp only [lstOf, q]) (fun _ z => by cases z)
      | scr xs => exact lists (ys := xs.map .int) (by simp only [lstOf, q]) (fun _ z => by cases z)
      | dct kvs =>
        obtain ⟨_, ws, z1, z2, z3⟩ := st.cell n a _ h1 q
        have t' : tyD h (.loc n) = .type "dict" := by simp only [tyD, q]
        have e' : b = false := by simp only [isTy, q] at e; cases e; rfl
        rw [t', e']
        refine ⟨.base (.dK z1), ?_⟩
        cases t <;> kernel_rfl

/-! ### methods -/
theorem joinS_L (s : List Nat) : ∀ ss : List (List Nat), TL.joinL s ss = joinS s ss
  | [] => rfl
  | [x] => rfl
  | x :: y :: r => by
    show x ++ (s ++ TL.joinL s (y :: r)) = x ++ s ++ joinS s (y :: r)
    rw [joinS_L s (y :: r), List.append_assoc]
theorem join_D (s : List Nat) (ss : List (List Nat)) : Txt.join (mkS s) (ss.map mkS) = mkS (joinS s ss) := by
  have e1 : TL.tl (Txt.join (mkS s) (ss.map mkS)) = joinS s ss := by
    rw [TL.join_eq, TL.tl_join, joinS_L]
    have : (ss.map mkS).map TL.tl = ss := by
      rw [List.map_map]
      conv => rhs; rw [← List.map_id ss]
      exact List.map_congr_left fun x _ => by simp [TL.tl, mkS]
    rw [this]
  rw [← e1]
theorem joinS_len (s : List Nat) : ∀ ss : List (List Nat), (joinS s ss).length ≤ (ss.map List.length).sum + ss.length * s.length
  | [] => by simp [joinS]
  | [x] => by simp [joinS]
  | x :: y :: r => by
    have ih := joinS_len s (y :: r)
    simp only [joinS, List.length_append, List.map_cons, List.sum_cons, List.length_cons, Nat.add_mul, Nat.one_mul] at ih ⊢
    omega
theorem joinS_mem (s : List Nat) (c : Nat) : ∀ ss : List (List Nat), c ∈ joinS s ss → c ∈ s ∨ ∃ x ∈ ss, c ∈ x
  | [], h => by simp [joinS] at h
  | [x], h => .inr ⟨x, by simp, h⟩
  | x :: y :: r, h => by
    simp only [joinS, List.mem_append] at h
    rcases h with (h | h) | h
    · exact .inr ⟨x, by simp, h⟩
    · exact .inl h
    · rcases joinS_mem s c (y :: r) h with h | ⟨z, h1, h2⟩
      · exact .inl h
      · exact .inr ⟨z, List.mem_cons_of_mem _ h1, h2⟩
theorem mtD_two {f : MT} {o a b : Dv} {r : List Dv} : mtD f o (a :: b :: r) h = .bad := by
  cases f <;> cases o <;> first | rfl | (cases a <;> rfl)
theorem mt_join_ok {s : List Nat} {ss : List (List Nat)} {p : Addr} {vs : List V} (st : StR X.K al F H h) (hs : StrOk s) (hq : SqL X.K H p vs ∨ SqT X.K H p vs) (r : Rps X.K al F vs (ss.map Dv.str))
    (ok : okR X.K (vpost X.K Q) xp al F H (if SZok ((ss.map List.length).sum + ss.length * s.length) then .ok (.str (joinS s ss)) h else .bad)) :
    ∃ a p', ∃ ys : List Str, V.str (mkS s) = .str a ∧ [V.ref p] = [.ref p'] ∧ (SqL X.K H p' (ys.map V.str) ∨ SqT X.K H p' (ys.map V.str)) ∧ (ys.map (·.length)).sum + ys.length * a.length ≤ 16777216 ∧ Q (.str (Txt.join a ys)) H := by
  by_cases z : SZok ((ss.map List.length).sum + ss.length * s.length) = true
  · rw [if_pos z] at ok
    have z' := SZok_iff.mp z
    have e := r.strs
    have e2 : ((ss.map mkS).map V.str) = vs := by rw [e, List.map_map]; rfl
    refine ⟨mkS s, p, ss.map mkS, rfl, rfl, by rw [e2]; exact hq, ?_, ?_⟩
    · have e3 : ((ss.map mkS).map (·.length)) = ss.map List.length := by
        rw [List.map_map]
        exact List.map_congr_left fun x _ => mkS_len x
      rw [e3, List.length_map, mkS_len]
      exact z'
    · rw [join_D]
      refine ok.val st (.str _ ⟨Nat.le_trans (joinS_len s ss) z', fun c hc => ?_⟩)
      rcases joinS_mem s c ss hc with hc | ⟨x, hx, hc⟩
      · exact hs.sgn c hc
      · exact (r.strOks x hx).sgn c hc
  · rw [if_neg z] at ok; exact False.elim ok
theorem mtr_join : MtR X "str.join" (rMT X.K .join) := by
  intro pins s σ H x xs v us Q I rx rs' hr
  obtain ⟨al, F, h, d, ds, xp, st, rd, rs, ok⟩ := hr
  refine mt_join pins s σ H x xs v us Q I rx rs' ?_
  cases rd with
  | str a ha =>
    match ds, rs with
    | [], _ => exact False.elim ok
    | [e], rs =>
      obtain ⟨w, rfl, re⟩ := rps1 rs
      have lists : ∀ {e : Dv}, Rp X.K al F w e → okR X.K (vpost X.K Q) xp al F H (match (lstOf h e).bind strsOf with
          | some ss => if SZok ((ss.map List.length).sum + ss.length * a.length) then .ok (.str (joinS a ss)) h else .bad
          | none => .bad) → ∃ a_1 p, ∃ ys : List Str, V.str (mkS a) = .str a_1 ∧ [w] = [.ref p] ∧ (SqL X.K H p (ys.map V.str) ∨ SqT X.K H p (ys.map V.str)) ∧ (ys.map (·.length)).sum + ys.length * a_1.length ≤ 16777216 ∧ Q (.str (Txt.join a_1 ys)) H := fun {e} re ok => by
        cases q : (lstOf h e).bind strsOf with
        | none => rw [q] at ok; exact False.elim ok
        | some ss =>
          rw [q] at ok
          obtain ⟨ys, e1, e2⟩ := Option.bind_eq_some_iff.mp q
          obtain ⟨p, vs, rfl, hp, rp⟩ := st.seqL re e1
          rw [strsOf_map e2] at rp
          exact mt_join_ok st ha (.inl hp) rp ok
      cases re with
      | @tup p vs es h1 h2 =>
        have ok' : okR X.K (vpost X.K Q) xp al F H (match strsOf es with
          | some ss => if SZok ((ss.map List.length).sum + ss.length * a.length) then .ok (.str (joinS a ss)) h else .bad
          | none => .bad) := ok
        cases q : strsOf es with
        | none => rw [q] at ok'; exact False.elim ok'
        | some ss =>
          rw [q] at ok'
          rw [strsOf_map q] at h2
          exact mt_join_ok st ha (.inr (SqT.mono st.sub h1)) h2 ok'
      | lst h1 h2 => exact lists (.lst h1 h2) ok
      | loc h1 => exact lists (.loc h1) ok
      | _ => exact False.elim ok
    | _ :: _ :: _, _ => rw [mtD_two] at ok; exact False.elim ok
  | _ => exact False.elim ok
theorem mtr_find : MtR X "str.find" (rMT X.K .find) := by
  intro pins s σ H x xs v us Q I rx rs' hr
  obtain ⟨al, F, h, d, ds, xp, st, rd, rs, ok⟩ := hr
  refine mt_find pins s σ H x xs v us Q I rx rs' ?_
  cases rd with
  | str a ha =>
    match ds, rs with
    | [], _ => exact False.elim ok
    | [e], rs =>
      obtain ⟨w, rfl, re⟩ := rps1 rs
      cases re with
      | str b hb => exact ⟨_, _, rfl, rfl, by rw [find_D]; exact ok.val st (.int _)⟩
      | _ => exact False.elim ok
    | _ :: _ :: _, _ => rw [mtD_two] at ok; exact False.elim ok
  | _ => exact False.elim ok
theorem mtr_rfind : MtR X "str.rfind" (rMT X.K .rfind) := by
  intro pins s σ H x xs v us Q I rx rs' hr
  obtain ⟨al, F, h, d, ds, xp, st, rd, rs, ok⟩ := hr
  refine mt_rfind pins s σ H x xs v us Q I rx rs' ?_
  cases rd with
  | str a ha =>
    match ds, rs with
    | [], _ => exact False.elim ok
    | [e], rs =>
      obtain ⟨w, rfl, re⟩ := rps1 rs
      cases re with
      | str b hb => exact ⟨_, _, rfl, rfl, by rw [rfind_D]; exact ok.val st (.int _)⟩
      | _ => exact False.elim ok
    | _ :: _ :: _, _ => rw [mtD_two] at ok; exact False.elim ok
  | _ => exact False.elim ok
theorem mtr_append : MtR X "list.append" (rMT X.K .append) := by
  intro pins s σ H x xs v us Q I rx rs' hr
  obtain ⟨al, F, h, d, ds, xp, st, rd, rs, ok⟩ := hr
  refine mt_append pins s σ H x xs v us Q I rx rs' ?_
  cases rd with
  | @loc a n h1 =>
    match ds, rs with
    | [], _ => exact False.elim ok
    | [e], rs =>
      obtain ⟨w, rfl, re⟩ := rps1 rs
      have ok' : okR X.K (vpost X.K Q) xp al F H (match h[n]? with
        | some (.lst xs) => if SZok (xs.length + 1) then .ok .non (h.set n (.lst (xs ++ [e]))) else .bad
        | _ => .bad) := ok
      cases q : h[n]? with
      | none => rw [q] at ok'; exact False.elim ok'
      | some c =>
        rw [q] at ok'
        cases c with
        | lst ys =>
          dsimp only at ok'
          by_cases z : SZok (ys.length + 1) = true
          · rw [if_pos z] at ok'
            obtain ⟨z0, vs, z1, z2⟩ := st.cell n a _ h1 q
            refine ⟨a, vs, w, rfl, rfl, z1, by rw [z2.length, SZ_eq]; exact SZok_iff.mp z, ?_⟩
            refine ok' al F _ (Ex.setCell st h1) (st.setCell h1 z0 ?_) _ .non
            exact ⟨z0, _, upd_same, z2.append (.cons re .nil)⟩
          · rw [if_neg z] at ok'; exact False.elim ok'
        | _ => exact False.elim ok'
    | _ :: _ :: _, _ => rw [mtD_two] at ok; exact False.elim ok
  | _ => exact False.elim ok
end
end Dn

set_option Elab.async false
set_option linter.all false
set_option maxRecDepth 100000
set_option maxHeartbeats 1000000
/-! the checker: the text against the small language -/
namespace Dn
open PySem PySem.Spec PyProof.Rows L2

structure Inf where
  fns : List (Str × List Str)
  cons : List Str
  calls : List (Nat × Nat × List Str × List Nat)

def visB (sc : Scope) (x : Str) : Bool := match sc.names.lookup x with
  | some .local => true
  | some .cell => true
  | some .free => true
  | _ => false
def locB (sc : Scope) (x : Str) : Bool := match sc.names.lookup x with
  | some .local => true
  | some .cell => true
  | _ => false
def glB (sc : Scope) (x : Str) : Bool := match sc.names.lookup x with
  | some .globalImplicit => true
  | _ => false
def nmB (x : Str) : Bool := !(x == ("__debug__" : Str)) && !(x == ("__classdict__" : Str))
def okSB (l : List Nat) : Bool := SZok l.length && l.all fun c => decide (c < 55296)
def cstB : Const → Dv → Bool
  | .none, .non => true
  | .bool b, .bl c => b == c
  | .int i, .int j => decide (i = j)
  | .str s, .str l => decide (s = mkS l) && okSB l
  | _, _ => false
def biN : BI → Option (Str × Value)
  | .len => some ("len", .builtin "len")
  | .abs => some ("abs", .builtin "abs")
  | .int => some ("int", .type "int")
  | .all => some ("all", .builtin "all")
  | .any => some ("any", .builtin "any")
  | .tuple => some ("tuple", .type "tuple")
  | .list => some ("list", .type "list")
  | .listN => some ("list", .type "list")
  | .max => some ("max", .builtin "max")
  | .min => some ("min", .builtin "min")
  | .sum => some ("sum", .builtin "sum")
  | .sorted => some ("sorted", .builtin "sorted")
  | _ => none
def mtN : MT → Option Str
  | .join => some "join"
  | .find => some "find"
  | .rfind => some "rfind"
  | .append => some "append"
  | _ => none
def ownOf (N : List Str) (vs : List Nat) : List (Str × Nat) := vs.map fun i => (N.getD i Str.empty, i)
/-- a target: its names may be stored (sc: the scope that owns them) -/
def tgB (sc : Scope) (N : List Str) : Tg → Expr → Bool
  | .name i, .Name x _ => decide (N[i]? = some x) && locB sc x
  | .tup js, .Tuple es _ _ => tgsB js es
  | _, _ => false
where tgsB : List Nat → List Expr → Bool
  | [], [] => true
  | i :: js, .Name x _ :: es => decide (N[i]? = some x) && locB sc x && tgsB js es
  | _, _ => false
def tgIn : Tg → List Nat → Bool
  | .name i, vs => vs.contains i
  | .tup js, vs => js.all vs.contains
def noSuper : Expr → Bool
  | .Call (.Name id _) [] [] _ => id != ("super" : Str)
  | _ => true
def isTupT : Expr → Bool
  | .Tuple _ _ _ => true
  | _ => false

mutual
def chkE (I : Inf) (N : List Str) : Scope → ME → Expr → Bool
  | sc, .var i, e => match e with
    | .Name x _ => decide (N[i]? = some x) && visB sc x && nmB x
    | _ => false
  | sc, .cst d, e => match e with
    | .Constant c _ _ => cstB c d
    | _ => false
  | sc, .glb j, e => match e with
    | .Name x _ => decide (I.cons[j]? = some x) && glB sc x && nmB x
    | _ => false
  | sc, .bin op a b, e => match e with
    | .BinOp l o r _ => decide (o = opOf op) && chkE I N sc a l && chkE I N sc b r
    | _ => false
  | sc, .cmp op a b, e => match e with
    | .Compare l [o] [r] _ => decide (o = cOf op) && chkE I N sc a l && chkE I N sc b r
    | _ => false
  | sc, .chain p q a b c, e => match e with
    | .Compare l [o, u] [r, z] _ => decide (o = cOf p) && decide (u = cOf q) && chkE I N sc a l && chkE I N sc b r && chkE I N sc c z
    | _ => false
  | sc, .isn pos a, e => match e with
    | .Compare l [o] [.Constant .none _ _] _ => decide (o = if pos then .Is else .IsNot) && chkE I N sc a l
    | _ => false
  | sc, .neg a, e => match e with
    | .UnaryOp .USub x _ => chkE I N sc a x
    | _ => false
  | sc, .not a, e => match e with
    | .UnaryOp .Not x _ => chkE I N sc a x
    | _ => false
  | sc, .bop conj es, e => match e with
    | .BoolOp op xs _ => decide (op = if conj then .And else .Or) && chkEs I N sc es xs
    | _ => false
  | sc, .ite c a b, e => match e with
    | .IfExp x y z _ => chkE I N sc c x && chkE I N sc a y && chkE I N sc b z
    | _ => false
  | sc, .tup es, e => match e with
    | .Tuple xs _ _ => chkEs I N sc es xs
    | _ => false
  | sc, .lst es, e => match e with
    | .List xs _ => chkEs I N sc es xs
    | _ => false
  | sc, .new es, e => match e with
    | .List xs _ => chkEs I N sc es xs
    | _ => false
  | sc, .dnew, e => match e with
    | .Dict [] [] _ => true
    | _ => false
  | sc, .idx a b, e => match e with
    | .Subscript x i _ => chkE I N sc a x && chkE I N sc b i
    | _ => false
  | sc, .sl a lo hi, e => match e with
    | .Subscript x (.Slice l u none _) _ => chkE I N sc a x && chkO I N sc lo l && chkO I N sc hi u
    | _ => false
  | sc, .rev a, e => match e with
    | .Subscript x (.Slice none none (some (.UnaryOp .USub (.Constant (.int i) _ _) _)) _) _ => decide (i = 1) && chkE I N sc a x
    | _ => false
  | sc, .bi f es, e => match e with
    | .Call (.Name x _) xs [] _ => (match biN f with
      | some (y, _) => decide (x = y)
      | none => false) && glB sc x && chkEs I N sc es xs
    | _ => false
  | sc, .bi1 f a, e => match f, e with
    | .isi t, .Call (.Name x _) [y, .Name z _] [] _ => decide (x = "isinstance") && glB sc x && decide (z = tyS t) && glB sc z && chkE I N sc a y
    | .isi2 t u, .Call (.Name x _) [y, .Tuple [.Name z _, .Name z2 _] _ _] [] _ => decide (x = "isinstance") && glB sc x && decide (z = tyS t) && glB sc z && decide (z2 = tyS u) && glB sc z2 && chkE I N sc a y
    | .sset, .Call (.Name x _) [.Call (.Name z _) [y] [] _] [] _ => decide (x = "sorted") && glB sc x && decide (z = "set") && glB sc z && chkE I N sc a y
    | .lset, .Call (.Name x _) [.Call (.Name z _) [y] [] _] [] _ => decide (x = "len") && glB sc x && decide (z = "set") && glB sc z && chkE I N sc a y
    | _, _ => false
  | sc, .mt f o es, e => match e with
    | .Call (.Attribute y nm ap) (x :: xs) [] p => decide (mtN f = some nm) && (ap.endLine == p.line) && decide (xs.length < 20) && noSuper y && chkE I N sc o y && chkEs I N sc es (x :: xs)
    | _ => false
  | sc, .call f es ks perm, e => match e with
    | .Call (.Name x _) xs kws _ => (match I.fns[f]? with
      | some (y, ps) => decide (x = y) && (perm.length == ps.length)
      | none => false) && glB sc x && nmB x && kws.all (fun k => k.arg.isSome) && decide ((f, xs.length, kws.filterMap (fun k => k.arg), perm) ∈ I.calls) && chkEs I N sc es xs && chkEs I N sc ks (kws.map fun k => k.value)
    | _ => false
  | sc, .comp tg vs it cond elt, e => match e with
    | .ListComp x [⟨t, iter, ifs, as⟩] scope _ => decide (as = 0) && blkC N sc scope (ownOf N vs) && tgB scope N tg t && tgIn tg vs && chkI I N sc it t iter && chkC I N (relS scope sc) cond ifs && chkE I N (relS scope sc) elt x
    | _ => false
  | sc, .frz a, e => match e with
    | .Name x p => chkE I N sc a (.Name x p)
    | _ => false
def chkEs (I : Inf) (N : List Str) : Scope → MEs → List Expr → Bool
  | sc, .nil, e => e.isEmpty
  | sc, .cons m ms, e => match e with
    | x :: xs => chkE I N sc m x && chkEs I N sc ms xs
    | [] => false
def chkO (I : Inf) (N : List Str) : Scope → MO → Option Expr → Bool
  | sc, .none, e => e.isNone
  | sc, .some m, e => match e with
    | some x => chkE I N sc m x
    | none => false
def chkC (I : Inf) (N : List Str) : Scope → MO → List Expr → Bool
  | sc, .none, e => e.isEmpty
  | sc, .some m, e => match e with
    | [x] => chkE I N sc m x
    | _ => false
def chkI (I : Inf) (N : List Str) : Scope → MIt → Expr → Expr → Bool
  | sc, .seq a, t, e => chkE I N sc a e
  | sc, .range1 a, t, e => match e with
    | .Call (.Name x _) [y] [] _ => decide (x = "range") && glB sc x && chkE I N sc a y
    | _ => false
  | sc, .range2 a b, t, e => match e with
    | .Call (.Name x _) [y, z] [] _ => decide (x = "range") && glB sc x && chkE I N sc a y && chkE I N sc b z
    | _ => false
  | sc, .enum a, t, e => match e with
    | .Call (.Name x _) [y] [] _ => isTupT t && decide (x = "enumerate") && glB sc x && chkE I N sc a y
    | _ => false
  | sc, .zip a b, t, e => match e with
    | .Call (.Name x _) [y, z] [] _ => isTupT t && decide (x = "zip") && glB sc x && chkE I N sc a y && chkE I N sc b z
    | _ => false
end
/-- what a, b = x, y does with its stores: none where the model does not say -/
def swpB (sc : Scope) (ts : List Expr) (vs : List Expr) : Option (Option (List Str)) :=
  if !(ts.length == 2 || ts.length == 3) || vs.length != ts.length then some none else
  let line := (ts.head?.map (·.pos.line)).getD 0
  let names := ts.filterMap fun
    | .Name id pos => if sc.names.lookup id == some .local && pos.line == line then some id else none
    | _ => none
  if names.length != ts.length || names.eraseDups.length != names.length then some none else
  if vs.all (foldedForSure 8) then some none else
  if vs.all (constantsAlone 8) then none else some (some names)

mutual
def chkS (I : Inf) (N : List Str) : Scope → MS → Stmt → Bool
  | sc, .asg t m, st => match st with
    | .Assign [tg] e _ => tgB sc N t tg && chkE I N sc m e && (match t, e with
      | .tup _, .Tuple _ _ _ => false
      | _, _ => true)
    | _ => false
  | sc, .par js es, st => match st with
    | .Assign [.Tuple ts _ _] (.Tuple vs _ _) _ => tgB.tgsB sc N js ts && chkEs I N sc es vs && (swpB sc ts vs).isSome && Nat.ble js.length 60
    | _ => false
  | sc, .seti o i v, st => match st with
    | .Assign [.Subscript x y _] z _ => chkE I N sc o x && chkE I N sc i y && chkE I N sc v z
    | _ => false
  | sc, .aug i op m, st => match st with
    | .AugAssign (.Name x _) o e _ => decide (N[i]? = some x) && locB sc x && decide (o = opOf op) && augOk op && chkE I N sc m e
    | _ => false
  | sc, .expr m, st => match st with
    | .Expr e _ => (match e with
      | .ListComp _ _ _ _ => false
      | _ => true) && chkE I N sc m e
    | _ => false
  | sc, .ret m, st => match st with
    | .Return (some e) _ => chkE I N sc m e
    | _ => false
  | sc, .retn, st => match st with
    | .Return none _ => true
    | _ => false
  | sc, .ite c a b, st => match st with
    | .If x y z _ => chkE I N sc c x && chkSs I N sc a y && chkSs I N sc b z
    | _ => false
  | sc, .forr t it body, st => match st with
    | .For tg iter b [] _ => tgB sc N t tg && chkI I N sc it tg iter && chkSs I N sc body b
    | _ => false
  | sc, .whil _ c body, st => match st with
    | .While x b [] _ => chkE I N sc c x && chkSs I N sc body b
    | _ => false
  | sc, .pass, st => match st with
    | .Pass _ => true
    | _ => false
  | sc, .brk, st => match st with
    | .Break _ => true
    | _ => false
  | sc, .cont, st => match st with
    | .Continue _ => true
    | _ => false
  | sc, .never, st => true
def chkSs (I : Inf) (N : List Str) : Scope → MSs → List Stmt → Bool
  | sc, .nil, st => st.isEmpty
  | sc, .cons m ms, st => match st with
    | x :: xs => chkS I N sc m x && chkSs I N sc ms xs
    | [] => false
end

/-! ### readings -/
section
variable (K : PySem.W.Frag) (mg : Str → Option Value) (cl : Nat → List Dv → Hc → Res Dv) (gl : List Dv) (W : WX)
def tE (m : ME) : TE := fun sg H Q => ∃ al F h s, StR K al F H h ∧ EnvR K al F sg s ∧ okR K (vpost K Q) (xpE K mg W sg) al F H (ev cl gl m s h)
def tA (ms : MEs) : TA := fun sg H Q => ∃ al F h s, StR K al F H h ∧ EnvR K al F sg s ∧ okR K (lpost K Q) (xpE K mg W sg) al F H (evs cl gl ms s h)
def tT (m : ME) : TT := fun sg H Q => ∃ al F h s, StR K al F H h ∧ EnvR K al F sg s ∧ okR K (bpost Q) (xpE K mg W sg) al F H ((ev cl gl m s h).bind truthR)
def tB (conj : Bool) (ms : MEs) : TE := fun sg H Q => ∃ al F h s, StR K al F H h ∧ EnvR K al F sg s ∧ okR K (vpost K Q) (xpE K mg W sg) al F H (evB cl gl conj ms s h)
def tBt (conj : Bool) (ms : MEs) : TT := fun sg H Q => ∃ al F h s, StR K al F H h ∧ EnvR K al F sg s ∧ okR K (bpost Q) (xpE K mg W sg) al F H ((evB cl gl conj ms s h).bind truthR)
def tO (m : MO) : TO := fun sg H Q => ∃ al F h s, StR K al F H h ∧ EnvR K al F sg s ∧ okR K (bpost Q) (xpE K mg W sg) al F H (evO cl gl m s h)
def tC (m : MO) : TT := fun sg H Q => ∃ al F h s, StR K al F H h ∧ EnvR K al F sg s ∧ okR K (bpost Q) (xpE K mg W sg) al F H (evC cl gl m s h)
/-- an iterator over these items -/
structure JW (J : It) (al : List Addr) (F H : Hp) (items : List Dv) : Prop where
  go : ∀ (i : Nat) al' F' H' h', Ex al F H al' F' H' → StR K al' F' H' h' → i < items.length → J.go i H'
  stop : ∀ al' F' H' h', Ex al F H al' F' H' → StR K al' F' H' h' → J.stop items.length H'
  yld : ∀ (i : Nat) al' F' H' h' x H2, Ex al F H al' F' H' → StR K al' F' H' h' → i < items.length → J.yld i H' x H2 → ∃ F2, Ex al' F' H' al' F2 H2 ∧ StR K al' F2 H2 h' ∧ ∃ d, items[i]? = some d ∧ Rp K al' F2 x d
def ipost (R : It → Hp → Prop) : Post (List Dv) := fun al F H h items => ∀ J, JW K J al F H items → R J H
def tI (it : MIt) : TI := fun sg H R => ∃ al F h s, StR K al F H h ∧ EnvR K al F sg s ∧ okR K (ipost K R) (xpE K mg W sg) al F H (evI cl gl it s h)
end
/-- the promise of the i-th def -/
def spF (K : PySem.W.Frag) (mg : Str → Option Value) (np : Nat) (c : List Dv → Hc → Res Dv) : Sp := fun vs H Q E => vs.length = np ∧ ∃ al F h ds, StR K al F H h ∧ Rps K al F vs ds ∧
  okR K (vpost K Q) (fun al F H _ e => ∀ cls d, XR K mg al F e cls d H → E cls d H) al F H (c ds h)
def permL {t : Type} (xs : List t) (js : List Nat) : List t := js.filterMap fun j => xs[j]?
/-- how a call binds -/
def BdOk (K : PySem.W.Frag) (fd : FuncData) (ps : List Str) (n : Nat) (ks : List Str) (perm : List Nat) : Prop := ∀ (s : Shared) (us ws : List Value), K.In s.heap → us.length = n → ws.length = ks.length → BindsTo s fd ⟨us, ks.zip ws⟩ (ps.zip (permL (us ++ ws) perm))

def freeNames : List Str := ["len", "abs", "int", "all", "any", "tuple", "max", "min", "sum", "isinstance", "str", "bool", "list", "range", "enumerate", "zip", "sorted", "set"]
/-- a context in which the small language speaks -/
structure Gd (I : Inf) (N : List Str) (sc : Scope) (cl : Nat → List Dv → Hc → Res Dv) (gl : List Dv) (X : Cx) (W : WX) : Prop where
  sc : X.env.scope = sc
  n : X.N = N
  nd : N.Nodup
  calm : X.calm = true
  pass : PassesOwn (model X.prog X.w) X.A X.env X.xe
  takes : Takes X W
  units : X.A.units + 64 < cLine
  free : ∀ x ∈ freeNames, X.mg x = none
  fn : ∀ (i : Nat) x ps, I.fns[i]? = some (x, ps) → ∃ f fd k, X.mg x = some (.ref f) ∧ PySem.W.keepIn X.K (.ref f) = true ∧ Room k X.A ∧ FnOk X.prog X.w X.K X.mg X.base (L2.CX X.prog X.w) k f fd ps (spF X.K X.mg ps.length (cl i)) ∧
    ∀ n ks perm, (i, n, ks, perm) ∈ I.calls → BdOk X.K fd ps n ks perm
  gls : ∀ (j : Nat) x d, I.cons[j]? = some x → gl[j]? = some d → ∃ v u, X.mg x = some u ∧ RelV v u ∧ ∀ al F, Rp X.K al F v d
end Dn

set_option Elab.async false
set_option linter.all false
set_option maxRecDepth 100000
set_option maxHeartbeats 1000000
/-! soundness: the pieces -/
namespace Dn
open PySem PySem.Spec PyProof.Rows L2

/-! ### readings may be weakened -/
section
variable {X : Cx}
theorem PE.of {e : Expr} {t t' : TE} (h : PE X e t) (f : ∀ sg H Q, t' sg H Q → t sg H Q) : PE X e t' := ⟨fun pins s sg H Q I q => h.run pins s sg H Q I (f sg H Q q)⟩
theorem PT.of {e : Expr} {t t' : TT} (h : PT X e t) (f : ∀ sg H Q, t' sg H Q → t sg H Q) : PT X e t' := ⟨fun pins s sg H Q I q => h.run pins s sg H Q I (f sg H Q q)⟩
theorem PW.of {e : Expr} {t t' : TT} (h : PW X e t) (f : ∀ sg H Q, t' sg H Q → t sg H Q) : PW X e t' := ⟨fun wh pins s sg H Q I q => h.run wh pins s sg H Q I (f sg H Q q)⟩
theorem PA.of {e : List Expr} {t t' : TA} (h : PA X e t) (f : ∀ sg H Q, t' sg H Q → t sg H Q) : PA X e t' := ⟨fun pos pins s sg H Q I q => h.run pos pins s sg H Q I (f sg H Q q)⟩
theorem PO.of {e : Option Expr} {t t' : TO} (h : PO X e t) (f : ∀ sg H Q, t' sg H Q → t sg H Q) : PO X e t' := ⟨fun pins s sg H Q I q => h.run pins s sg H Q I (f sg H Q q)⟩
theorem PTs.of {e : List Expr} {t t' : TT} (h : PTs X e t) (f : ∀ sg H Q, t' sg H Q → t sg H Q) : PTs X e t' := ⟨fun pins s sg H Q I q => h.run pins s sg H Q I (f sg H Q q)⟩
theorem PI.of {tg e : Expr} {t t' : TI} (h : PI X tg e t) (f : ∀ sg H R, t' sg H R → t sg H R) : PI X tg e t' := ⟨fun pins s sg H R I q => h.run pins s sg H R I (f sg H R q)⟩
theorem PS.of {st : Stmt} {t t' : TS} (h : PS X st t) (f : ∀ D sg H, t' D sg H → t D sg H) : PS X st t' := ⟨fun pins s sg H D I q => h.run pins s sg H D I (f D sg H q)⟩
theorem PSs.of {st : List Stmt} {t t' : TS} (h : PSs X st t) (f : ∀ D sg H, t' D sg H → t D sg H) : PSs X st t' := ⟨fun pins s sg H D I q => h.run pins s sg H D I (f D sg H q)⟩
/-- .. chosen by the state -/
theorem PI.byC {tg e : Expr} {t : TI} (h : ∀ sg H R, t sg H R → ∃ t', PI X tg e t' ∧ t' sg H R) : PI X tg e t := ⟨fun pins s sg H R I q => by
  obtain ⟨t', h', q'⟩ := h sg H R q
  exact h'.run pins s sg H R I q'⟩
theorem PE.byC {e : Expr} {t : TE} (h : ∀ sg H R, t sg H R → ∃ t', PE X e t' ∧ t' sg H R) : PE X e t := ⟨fun pins s sg H R I q => by
  obtain ⟨t', h', q'⟩ := h sg H R q
  exact h'.run pins s sg H R I q'⟩
end

/-! ### the checker's facts -/
section
theorem visB_ok {sc : Scope} {x : Str} (h : visB sc x = true) : Vis sc x := by
  unfold visB at h
  split at h
  · rename_i q; exact .inl q
  · rename_i q; exact .inr (.inl q)
  · rename_i q; exact .inr (.inr q)
  · cases h
theorem locB_ok {sc : Scope} {x : Str} (h : locB sc x = true) : Loc sc x := by
  unfold locB at h
  split at h
  · rename_i q; exact .inl q
  · rename_i q; exact .inr q
  · cases h
theorem glB_ok {sc : Scope} {x : Str} (h : glB sc x = true) : sc.names.lookup x = some .globalImplicit := by
  unfold glB at h
  split at h
  · assumption
  · cases h
theorem nmB_ok {x : Str} (h : nmB x = true) : (x == ("__debug__" : Str)) = false ∧ (x == ("__classdict__" : Str)) = false := by
  have key : ∀ a b : Bool, (!a && !b) = true → a = false ∧ b = false := by decide
  exact key _ _ h
theorem okSB_ok {l : List Nat} (h : okSB l = true) : StrOk l := by
  unfold okSB at h
  simp only [Bool.and_eq_true] at h
  refine ⟨SZok_iff.mp h.1, fun c hc => ?_⟩
  exact of_decide_eq_true (List.all_eq_true.mp h.2 c hc)
variable {I : Inf} {N : List Str} {sc : Scope}
theorem chk_star : ∀ {m : ME} {x : Expr} {p : Pos}, chkE I N sc m (.Starred x p) = false := by
  intro m x p
  cases m <;> simp only [chkE]
theorem star_ok {m : ME} {e : Expr} (h : chkE I N sc m e = true) (es : List Expr) (env : Env) : starEach (e :: es) env = (false, eval e env) :: starEach es env := by
  rw [starEach]
  intro x p q
  rw [q, chk_star] at h
  cases h
theorem stars_ok : ∀ {ms : MEs} {es : List Expr}, chkEs I N sc ms es = true → ∀ (env : Env) (pos : Pos), (backTo pos (starEach es env)).any (·.1) = false
  | .nil, [], _, env, pos => rfl
  | .nil, _ :: _, h, _, _ => by simp [chkEs] at h
  | .cons m ms, [], h, _, _ => by simp [chkEs] at h
  | .cons m ms, e :: es, h, env, pos => by
    simp only [chkEs, Bool.and_eq_true] at h
    rw [star_ok h.1]
    show (false || (backTo pos (starEach es env)).any (·.1)) = false
    rw [stars_ok h.2 env pos]
    rfl
theorem stars_all : ∀ {ms : MEs} {es : List Expr}, chkEs I N sc ms es = true → ∀ (env : Env) (pos : Pos), (backTo pos (starEach es env)).all (fun x => !x.1) = true
  | .nil, [], _, env, pos => rfl
  | .nil, _ :: _, h, _, _ => by simp [chkEs] at h
  | .cons m ms, [], h, _, _ => by simp [chkEs] at h
  | .cons m ms, e :: es, h, env, pos => by
    simp only [chkEs, Bool.and_eq_true] at h
    rw [star_ok h.1]
    show (true && (backTo pos (starEach es env)).all (fun x => !x.1)) = true
    rw [stars_all h.2 env pos]
    rfl
theorem chk_slice : ∀ {m : ME} {a b c : Option Expr} {p : Pos}, chkE I N sc m (.Slice a b c p) = false := by
  intro m a b c p
  cases m <;> simp only [chkE]
theorem plain_ix {m : ME} {e : Expr} (h : chkE I N sc m e = true) : PlainIx e := by
  cases e <;> first | exact fun _ _ => rfl | (rw [chk_slice] at h; cases h)
theorem chk_set : ∀ {m : ME} {a : List Expr} {k : Nat} {p : Pos}, chkE I N sc m (.Set a k p) = false := by
  intro m a b p
  cases m <;> simp only [chkE]
theorem mark_ok {m : ME} {e : Expr} (h : chkE I N sc m e = true) (op : CmpOp) : behindInMarks op e = false := by
  cases e <;> first | rfl | (rw [chk_set] at h; cases h)
theorem folded_ok {m : ME} {e : Expr} (h : chkE I N sc m e = true) (env : Env) (x : Value) : foldedSetIterable e env x = pure x := by
  cases e <;> first | rfl | (rw [chk_set] at h; cases h)
theorem foldedI_ok {it : MIt} {t e : Expr} (h : chkI I N sc it t e = true) (env : Env) (x : Value) : foldedSetIterable e env x = pure x := by
  cases it with
  | seq a => exact folded_ok (show chkE I N sc a e = true by simpa [chkI] using h) env x
  | _ => cases e <;> first | rfl | (simp [chkI] at h)
/-- no super -/
theorem base_ok {e : Expr} (h : noSuper e = true) (attr : Str) (env : Env) : attributeBase e attr env (eval e env) = eval e env := by
  cases e with
  | Call f xs kws p =>
    cases f with
    | Name id q =>
      cases xs with
      | cons _ _ => rfl
      | nil =>
        cases kws with
        | cons _ _ => rfl
        | nil =>
          show (if (id != ("super" : Str) || attr == ("__class__" : Str) || env.kindOf "super" != some .globalImplicit || env.kindOf "__class__" != some .free) = true then (do return ← eval (.Call (.Name id q) [] [] p) env) else _) = _
          have e1 : (id != ("super" : Str)) = true := h
          rw [if_pos (by rw [e1]; rfl)]
    | _ => rfl
  | _ => rfl
end

/-! ### steps of the readings -/
section
variable {K : PySem.W.Frag} {mg : Str → Option Value} {cl : Nat → List Dv → Hc → Res Dv} {gl : List Dv} {W : WX} {sg : L2.St} {H : Hp}
theorem tE.one {m : ME} {Q : VK} {al : List Addr} {F : Hp} {h : Hc} {s : Env1} {t : Type} {post : Post t} {k : Dv → Hc → Res t} (st : StR K al F H h) (en : EnvR K al F sg s)
    (ok : okR K post (xpE K mg W sg) al F H ((ev cl gl m s h).bind k))
    (f : ∀ al1 F1 H1 h1 v d, Ex al F H al1 F1 H1 → StR K al1 F1 H1 h1 → EnvR K al1 F1 sg s → Rp K al1 F1 v d → okR K post (xpE K mg W sg) al1 F1 H1 (k d h1) → Q v H1) : tE K mg cl gl W m sg H Q :=
  ⟨al, F, h, s, st, en, ok.bind.imp fun al1 F1 H1 h1 d e1 s1 o1 v r1 => f al1 F1 H1 h1 v d e1 s1 (en.ext e1) r1 o1⟩
theorem tA.one {m : MEs} {Q : List V → Hp → Prop} {al : List Addr} {F : Hp} {h : Hc} {s : Env1} {t : Type} {post : Post t} {k : List Dv → Hc → Res t} (st : StR K al F H h) (en : EnvR K al F sg s)
    (ok : okR K post (xpE K mg W sg) al F H ((evs cl gl m s h).bind k))
    (f : ∀ al1 F1 H1 h1 v d, Ex al F H al1 F1 H1 → StR K al1 F1 H1 h1 → EnvR K al1 F1 sg s → Rps K al1 F1 v d → okR K post (xpE K mg W sg) al1 F1 H1 (k d h1) → Q v H1) : tA K mg cl gl W m sg H Q :=
  ⟨al, F, h, s, st, en, ok.bind.imp fun al1 F1 H1 h1 d e1 s1 o1 v r1 => f al1 F1 H1 h1 v d e1 s1 (en.ext e1) r1 o1⟩
theorem tO.one {m : MO} {Q : Option Int → Hp → Prop} {al : List Addr} {F : Hp} {h : Hc} {s : Env1} {t : Type} {post : Post t} {k : Option Int → Hc → Res t} (st : StR K al F H h) (en : EnvR K al F sg s)
    (ok : okR K post (xpE K mg W sg) al F H ((evO cl gl m s h).bind k))
    (f : ∀ al1 F1 H1 h1 d, Ex al F H al1 F1 H1 → StR K al1 F1 H1 h1 → EnvR K al1 F1 sg s → okR K post (xpE K mg W sg) al1 F1 H1 (k d h1) → Q d H1) : tO K mg cl gl W m sg H Q :=
  ⟨al, F, h, s, st, en, ok.bind.imp fun al1 F1 H1 h1 d e1 s1 o1 => f al1 F1 H1 h1 d e1 s1 (en.ext e1) o1⟩
theorem tT.one {m : ME} {Q : Bool → Hp → Prop} {al : List Addr} {F : Hp} {h : Hc} {s : Env1} {t : Type} {post : Post t} {k : Bool → Hc → Res t} (st : StR K al F H h) (en : EnvR K al F sg s)
    (ok : okR K post (xpE K mg W sg) al F H ((ev cl gl m s h).bind fun x h1 => (truthR x h1).bind k))
    (f : ∀ al1 F1 H1 h1 d, Ex al F H al1 F1 H1 → StR K al1 F1 H1 h1 → EnvR K al1 F1 sg s → okR K post (xpE K mg W sg) al1 F1 H1 (k d h1) → Q d H1) : tT K mg cl gl W m sg H Q := by
  have ok2 : okR K post (xpE K mg W sg) al F H (((ev cl gl m s h).bind truthR).bind k) := by
    cases q : ev cl gl m s h with
    | ok x h1 => rw [q] at ok; exact ok
    | exc e h1 => rw [q] at ok; exact ok
    | bad => rw [q] at ok; exact ok
  exact ⟨al, F, h, s, st, en, ok2.bind.imp fun al1 F1 H1 h1 d e1 s1 o1 => f al1 F1 H1 h1 d e1 s1 (en.ext e1) o1⟩
theorem tC.one {m : MO} {Q : Bool → Hp → Prop} {al : List Addr} {F : Hp} {h : Hc} {s : Env1} {t : Type} {post : Post t} {k : Bool → Hc → Res t} (st : StR K al F H h) (en : EnvR K al F sg s)
    (ok : okR K post (xpE K mg W sg) al F H ((evC cl gl m s h).bind k))
    (f : ∀ al1 F1 H1 h1 d, Ex al F H al1 F1 H1 → StR K al1 F1 H1 h1 → EnvR K al1 F1 sg s → okR K post (xpE K mg W sg) al1 F1 H1 (k d h1) → Q d H1) : tC K mg cl gl W m sg H Q :=
  ⟨al, F, h, s, st, en, ok.bind.imp fun al1 F1 H1 h1 d e1 s1 o1 => f al1 F1 H1 h1 d e1 s1 (en.ext e1) o1⟩
/-- two in a row -/
theorem tE.two {a b : ME} {r : R2} {Q : VK} {al : List Addr} {F : Hp} {h : Hc} {s : Env1} {t : Type} {post : Post t} {k : Dv → Dv → Hc → Res t} (st : StR K al F H h) (en : EnvR K al F sg s)
    (ok : okR K post (xpE K mg W sg) al F H ((ev cl gl a s h).bind fun x h1 => (ev cl gl b s h1).bind fun y h2 => k x y h2))
    (f : ∀ al2 F2 H2 h2 v w d e, StR K al2 F2 H2 h2 → EnvR K al2 F2 sg s → Rp K al2 F2 v d → Rp K al2 F2 w e → okR K post (xpE K mg W sg) al2 F2 H2 (k d e h2) → r v w H2 Q) :
    tOp r (tE K mg cl gl W a) (tE K mg cl gl W b) sg H Q :=
  tE.one st en ok fun al1 F1 H1 h1 v d e1 s1 en1 r1 o1 => tE.one s1 en1 o1 fun al2 F2 H2 h2 w e e2 s2 en2 r2 o2 => f al2 F2 H2 h2 v w d e s2 en2 (r1.ext e2) r2 o2
theorem truth_of {al : List Addr} {F : Hp} {h : Hc} {v : V} {d : Dv} {t : Type} {post : Post t} {xp : XPost} {k : Bool → Hc → Res t} (st : StR K al F H h) (r : Rp K al F v d) (ok : okR K post xp al F H ((truthR d h).bind k)) :
    ∃ b, TruV K v H b ∧ okR K post xp al F H (k b h) := by
  unfold truthR at ok
  cases q : truth h d with
  | none => rw [q] at ok; exact False.elim ok
  | some b => rw [q] at ok; exact ⟨b, truV st r q, ok⟩
theorem truth_now {al : List Addr} {F : Hp} {h : Hc} {v : V} {d : Dv} {xp : XPost} {Q : Bool → Hp → Prop} (st : StR K al F H h) (r : Rp K al F v d) (ok : okR K (bpost Q) xp al F H (truthR d h)) :
    ∃ b, TruV K v H b ∧ Q b H := by
  unfold truthR at ok
  cases q : truth h d with
  | none => rw [q] at ok; exact False.elim ok
  | some b => rw [q] at ok; exact ⟨b, truV st r q, ok.now st⟩
theorem cmpS_bl (op : COp) (x y : Dv) (h : Hc) : cmpS op x y h = .bad ∨ ∃ b, cmpS op x y h = .ok (.bl b) h := by
  unfold cmpS
  split <;> first | exact .inl rfl | exact .inr ⟨_, rfl⟩ | (split <;> first | exact .inl rfl | exact .inr ⟨_, rfl⟩ | (split <;> first | exact .inl rfl | exact .inr ⟨_, rfl⟩))
theorem cmpD_bl (op : COp) (x y : Dv) (h : Hc) : cmpD op x y h = .bad ∨ ∃ b, cmpD op x y h = .ok (.bl b) h := by
  unfold cmpD
  split
  · exact .inr ⟨_, rfl⟩
  · exact .inr ⟨_, rfl⟩
  · exact cmpS_bl _ x y h
end
end Dn

set_option Elab.async false
set_option linter.all false
set_option maxRecDepth 100000
set_option maxHeartbeats 1000000
/-! soundness, constructor by constructor -/
namespace Dn
open PySem PySem.Spec PyProof.Rows L2

section
variable {I : Inf} {N : List Str} {sc : Scope} {cl : Nat → List Dv → Hc → Res Dv} {gl : List Dv} {X : Cx} {W : WX}
end
section
variable {I : Inf} {N : List Str} {sc : Scope} {cl : Nat → List Dv → Hc → Res Dv} {gl : List Dv} {X : Cx} {W : WX}
abbrev RE (cl : Nat → List Dv → Hc → Res Dv) (gl : List Dv) (X : Cx) (W : WX) (m : ME) : TE := tE X.K X.mg cl gl W m
abbrev RT (cl : Nat → List Dv → Hc → Res Dv) (gl : List Dv) (X : Cx) (W : WX) (m : ME) : TT := tT X.K X.mg cl gl W m
abbrev RA (cl : Nat → List Dv → Hc → Res Dv) (gl : List Dv) (X : Cx) (W : WX) (m : MEs) : TA := tA X.K X.mg cl gl W m

/-- what an expression's test is, where it is no comparison, and, or, not, if -/
def plainT : Expr → Bool
  | .UnaryOp .Not _ _ => false
  | .BoolOp _ _ _ => false
  | .IfExp _ _ _ _ => false
  | .Compare _ _ _ _ => false
  | _ => true
theorem plainT_ok {e : Expr} (h : plainT e = true) (env : Env) (whole : Sem Value) : isTrue e env whole = (do let v ← whole; standAt e.pos; holding [v] (truthy v)) := by
  rw [PySem.isTrue]
  · intro x p q; subst q; cases h
  · intro x y p q; subst q; cases h
  · intro x y z p q; subst q; cases h
  · intro x y z p q; subst q; cases h
theorem pt_plain {m : ME} {e : Expr} (h : PE X e (RE cl gl X W m)) (hp : plainT e = true) : PT X e (RT cl gl X W m) := by
  refine PT.of (pt_truth h fun w => plainT_ok hp X.env w) ?_
  rintro sg H Q ⟨al, F, h0, s, st, en, ok⟩
  exact tE.one st en ok fun al1 F1 H1 h1 v d e1 s1 en1 r1 o1 => truth_now s1 r1 o1

theorem s_var (G : Gd I N sc cl gl X W) {i : Nat} {e : Expr} (h : chkE I N sc (.var i) e = true) : PE X e (RE cl gl X W (.var i)) ∧ plainT e = true := by
  cases e with
  | Name x p =>
    simp only [chkE, Bool.and_eq_true, decide_eq_true_eq] at h
    obtain ⟨⟨h1, h2⟩, h3⟩ := h
    obtain ⟨h4, h5⟩ := nmB_ok h3
    refine ⟨PE.of (pe_var (i := i) (by rw [G.n]; exact h1) (by rw [G.sc]; exact visB_ok h2) h4 h5) ?_, rfl⟩
    rintro sg H Q ⟨al, F, h0, s, st, en, ok⟩
    simp only [ev] at ok
    cases q : s[i]? with
    | none => rw [q] at ok; exact False.elim ok
    | some o =>
      cases o with
      | none => rw [q] at ok; exact False.elim ok
      | some d =>
        rw [q] at ok
        obtain ⟨v, hv, rv⟩ := en.get i d q
        exact ⟨v, hv, ok.val st rv⟩
  | _ => simp [chkE] at h
theorem s_cst {d : Dv} {e : Expr} (h : chkE I N sc (.cst d) e = true) : PE X e (RE cl gl X W (.cst d)) ∧ plainT e = true := by
  cases e with
  | Constant c k p =>
    simp only [chkE] at h
    cases c with
    | none =>
      cases d with
      | non => exact ⟨PE.of pe_non fun sg H Q ⟨al, F, h0, s, st, en, ok⟩ => ok.val st .non, rfl⟩
      | _ => cases h
    | bool b =>
      cases d with
      | bl c =>
        have e : b = c := eq_of_beq h
        subst e
        exact ⟨PE.of pe_bl fun sg H Q ⟨al, F, h0, s, st, en, ok⟩ => ok.val st (.bl b), rfl⟩
      | _ => cases h
    | int b =>
      cases d with
      | int c =>
        have e : b = c := of_decide_eq_true h
        subst e
        exact ⟨PE.of pe_int fun sg H Q ⟨al, F, h0, s, st, en, ok⟩ => ok.val st (.int b), rfl⟩
      | _ => cases h
    | str b =>
      cases d with
      | str c =>
        simp only [cstB, Bool.and_eq_true, decide_eq_true_eq] at h
        obtain ⟨rfl, h2⟩ := h
        exact ⟨PE.of pe_str fun sg H Q ⟨al, F, h0, s, st, en, ok⟩ => ok.val st (.str c (okSB_ok h2)), rfl⟩
      | _ => cases h
    | _ => cases d <;> cases h
  | _ => simp [chkE] at h
theorem s_glb (G : Gd I N sc cl gl X W) {j : Nat} {e : Expr} (h : chkE I N sc (.glb j) e = true) : PE X e (RE cl gl X W (.glb j)) ∧ plainT e = true := by
  cases e with
  | Name x p =>
    simp only [chkE, Bool.and_eq_true, decide_eq_true_eq] at h
    obtain ⟨⟨h1, h2⟩, h3⟩ := h
    obtain ⟨h4, h5⟩ := nmB_ok h3
    refine ⟨PE.byC ?_, rfl⟩
    rintro sg H Q ⟨al, F, h0, s, st, en, ok⟩
    simp only [ev] at ok
    cases q : gl[j]? with
    | none => rw [q] at ok; exact False.elim ok
    | some d =>
      rw [q] at ok
      obtain ⟨v, u, hm, ru, rp⟩ := G.gls j x d h1 q
      exact ⟨_, pe_glob (show X.env.kindOf x = _ by show X.env.scope.names.lookup x = _; rw [G.sc]; exact glB_ok h2) hm ru h4, ok.val st (rp al F)⟩
  | _ => simp [chkE] at h
theorem s_bin {op : BOp} {a b : ME} {l r : Expr} {pos : Pos} (ha : PE X l (RE cl gl X W a)) (hb : PE X r (RE cl gl X W b)) : PE X (.BinOp l (opOf op) r pos) (RE cl gl X W (.bin op a b)) := by
  refine PE.of (pe_op (opr_bin op) ha hb) ?_
  rintro sg H Q ⟨al, F, h0, s, st, en, ok⟩
  simp only [ev] at ok
  exact tE.two st en ok fun al2 F2 H2 h2 v w d e s2 en2 r1 r2 o2 => ⟨al2, F2, h2, d, e, _, s2, r1, r2, o2⟩
theorem s_cmp (G : Gd I N sc cl gl X W) {op : COp} {a b : ME} {l r : Expr} {pos : Pos} (ha : PE X l (RE cl gl X W a)) (hb : PE X r (RE cl gl X W b)) (hm : behindInMarks (cOf op) r = false) :
    PE X (.Compare l [cOf op] [r] pos) (RE cl gl X W (.cmp op a b)) ∧ PT X (.Compare l [cOf op] [r] pos) (RT cl gl X W (.cmp op a b)) := by
  constructor
  · refine PE.of (pe_cmpR (opr_cmp op G.units) ha hb hm) ?_
    rintro sg H Q ⟨al, F, h0, s, st, en, ok⟩
    simp only [ev] at ok
    exact tE.two st en ok fun al2 F2 H2 h2 v w d e s2 en2 r1 r2 o2 => ⟨al2, F2, h2, d, e, _, s2, r1, r2, o2⟩
  · refine PT.of (pt_cmpR (opr_cmp op G.units) ha hb hm) ?_
    rintro sg H Q ⟨al, F, h0, s, st, en, ok⟩
    have ok2 : okR X.K (bpost Q) (xpE X.K X.mg W sg) al F H ((ev cl gl a s h0).bind fun x h1 => (ev cl gl b s h1).bind fun y h2 => (cmpD op x y h2).bind truthR) := by
      simp only [ev] at ok
      cases q : ev cl gl a s h0 with
      | ok x h1 =>
        rw [q] at ok
        simp only [Res.bind_ok] at ok ⊢
        cases q2 : ev cl gl b s h1 with
        | ok y h2 => rw [q2] at ok; exact ok
        | exc e h1 => rw [q2] at ok; exact ok
        | bad => rw [q2] at ok; exact ok
      | exc e h1 => rw [q] at ok; exact ok
      | bad => rw [q] at ok; exact ok
    refine tE.two (Q := fun x H' => ∃ k, x = .bl k ∧ Q k H') st en ok2 fun al2 F2 H2 h2 v w d e s2 en2 r1 r2 o2 => ⟨al2, F2, h2, d, e, xpE X.K X.mg W sg, s2, r1, r2, ?_⟩
    rcases cmpD_bl op d e h2 with q | ⟨b, q⟩
    · rw [q] at o2; exact False.elim o2
    · rw [q] at o2 ⊢
      intro al3 F3 H3 e3 s3 v rv
      cases rv
      exact ⟨b, rfl, o2 al3 F3 H3 e3 s3⟩
theorem s_chain (G : Gd I N sc cl gl X W) {p q : COp} {a b c : ME} {l r z : Expr} {pos : Pos} (ha : PE X l (RE cl gl X W a)) (hb : PE X r (RE cl gl X W b)) (hc : PE X z (RE cl gl X W c)) (hm : lastMarks [cOf p, cOf q] [r, z] = false) :
    PE X (.Compare l [cOf p, cOf q] [r, z] pos) (RE cl gl X W (.chain p q a b c)) ∧ PT X (.Compare l [cOf p, cOf q] [r, z] pos) (RT cl gl X W (.chain p q a b c)) := by
  constructor
  · refine PE.of (pe_chain (opr_cmp p G.units) (opr_cmp q G.units) ha hb hc hm) ?_
    rintro sg H Q ⟨al, F, h0, s, st, en, ok⟩
    simp only [ev] at ok
    refine tE.one st en ok fun al1 F1 H1 h1 v d e1 s1 en1 r1 o1 => tE.one s1 en1 o1 fun al2 F2 H2 h2 w e e2 s2 en2 r2 o2 => ?_
    refine ⟨al2, F2, h2, d, e, xpE X.K X.mg W sg, s2, r1.ext e2, r2, ?_⟩
    rcases cmpD_bl p d e h2 with q1 | ⟨k, q1⟩
    · rw [q1] at o2; exact False.elim o2
    · rw [q1] at o2 ⊢
      intro al3 F3 H3 e3 s3 v' rv
      cases rv
      refine ⟨k, rfl, ?_⟩
      simp only [Res.bind_ok] at o2
      cases k with
      | false =>
        rw [if_neg Bool.false_ne_true]
        exact o2 al3 F3 H3 e3 s3 _ (.bl false)
      | true =>
        rw [if_pos rfl]
        refine tE.one s3 (en2.ext e3) (okR.ext o2 e3 s3) fun al4 F4 H4 h4 w' f e4 s4 en4 r4 o4 => ?_
        exact ⟨al4, F4, h4, e, f, xpE X.K X.mg W sg, s4, (r2.ext e3).ext e4, r4, o4⟩
  · refine PT.of (pt_chain (opr_cmp p G.units) (opr_cmp q G.units) ha hb hc hm) ?_
    rintro sg H Q ⟨al, F, h0, s, st, en, ok⟩
    have ok2 : okR X.K (bpost Q) (xpE X.K X.mg W sg) al F H ((ev cl gl a s h0).bind fun x h1 => (ev cl gl b s h1).bind fun y h2 => (cmpD p x y h2).bind fun z h3 => (match z with
      | .bl true => (ev cl gl c s h3).bind fun w h4 => cmpD q y w h4
      | .bl false => .ok (.bl false) h3
      | _ => .bad : Res Dv).bind truthR) := by
      simp only [ev] at ok
      cases q : ev cl gl a s h0 with
      | ok x h1 =>
        rw [q] at ok
        simp only [Res.bind_ok] at ok ⊢
        cases q2 : ev cl gl b s h1 with
        | ok y h2 =>
          rw [q2] at ok
          simp only [Res.bind_ok] at ok ⊢
          cases q3 : cmpD p x y h2 with
          | ok z h3 => rw [q3] at ok; exact ok
          | exc e h1 => rw [q3] at ok; exact ok
          | bad => rw [q3] at ok; exact ok
        | exc e h1 => rw [q2] at ok; exact ok
        | bad => rw [q2] at ok; exact ok
      | exc e h1 => rw [q] at ok; exact ok
      | bad => rw [q] at ok; exact ok
    refine tE.one st en ok2 fun al1 F1 H1 h1 v d e1 s1 en1 r1 o1 => tE.one s1 en1 o1 fun al2 F2 H2 h2 w e e2 s2 en2 r2 o2 => ?_
    refine ⟨al2, F2, h2, d, e, xpE X.K X.mg W sg, s2, r1.ext e2, r2, ?_⟩
    rcases cmpD_bl p d e h2 with q1 | ⟨k, q1⟩
    · rw [q1] at o2; exact False.elim o2
    · rw [q1] at o2 ⊢
      intro al3 F3 H3 e3 s3 v' rv
      cases rv
      refine ⟨k, rfl, ?_⟩
      simp only [Res.bind_ok] at o2
      cases k with
      | false =>
        rw [if_neg Bool.false_ne_true]
        exact ⟨false, rfl, o2 al3 F3 H3 e3 s3⟩
      | true =>
        rw [if_pos rfl]
        have o3 : okR X.K (bpost Q) (xpE X.K X.mg W sg) al3 F3 H3 ((ev cl gl c s h2).bind fun w h4 => (cmpD q e w h4).bind truthR) := by
          have o2' := okR.ext o2 e3 s3
          cases q5 : ev cl gl c s h2 with
          | ok z h3 => rw [q5] at o2'; exact o2'
          | exc e h1 => rw [q5] at o2'; exact o2'
          | bad => rw [q5] at o2'; exact o2'
        refine tE.one s3 (en2.ext e3) o3 fun al4 F4 H4 h4 w' f e4 s4 en4 r4 o4 => ?_
        refine ⟨al4, F4, h4, e, f, xpE X.K X.mg W sg, s4, (r2.ext e3).ext e4, r4, ?_⟩
        rcases cmpD_bl q e f h4 with q6 | ⟨k, q6⟩
        · rw [q6] at o4; exact False.elim o4
        · rw [q6] at o4 ⊢
          intro al5 F5 H5 e5 s5 v5 r5
          cases r5
          exact ⟨k, rfl, o4 al5 F5 H5 e5 s5⟩
theorem s_isn {po : Bool} {a : ME} {l : Expr} {k : Nat} {p pos : Pos} (ha : PE X l (RE cl gl X W a)) :
    PE X (.Compare l [if po then .Is else .IsNot] [.Constant .none k p] pos) (RE cl gl X W (.isn po a)) ∧ PT X (.Compare l [if po then .Is else .IsNot] [.Constant .none k p] pos) (RT cl gl X W (.isn po a)) := by
  have key : ∀ {al : List Addr} {F : Hp} {v : V} {d : Dv}, Rp X.K al F v d → decide (v = .non) = (match d with | .non => true | _ => false) := fun r => by cases r <;> rfl
  cases po with
  | true =>
    constructor
    · refine PE.of (pe_cmp (pc_isN ha) rfl) ?_
      rintro sg H Q ⟨al, F, h0, s, st, en, ok⟩
      simp only [ev] at ok
      refine tE.one st en ok fun al1 F1 H1 h1 v d e1 s1 en1 r1 o1 => ?_
      rw [key r1]
      cases r1 <;> exact o1.val s1 (.bl _)
    · refine PT.of (pt_cmp (pc_isN ha) rfl) ?_
      rintro sg H Q ⟨al, F, h0, s, st, en, ok⟩
      have ok2 : okR X.K (bpost Q) (xpE X.K X.mg W sg) al F H ((ev cl gl a s h0).bind fun x h1 => .ok (match x with | .non => true | _ => false) h1) := by
        simp only [ev] at ok
        cases q : ev cl gl a s h0 with
        | ok x h1 => rw [q] at ok; cases x <;> exact ok
        | exc e h1 => rw [q] at ok; exact ok
        | bad => rw [q] at ok; exact ok
      refine tE.one st en ok2 fun al1 F1 H1 h1 v d e1 s1 en1 r1 o1 => ?_
      exact ⟨_, rfl, by rw [key r1]; exact o1.now s1⟩
  | false =>
    constructor
    · refine PE.of (pe_cmp (pc_notN ha) rfl) ?_
      rintro sg H Q ⟨al, F, h0, s, st, en, ok⟩
      simp only [ev] at ok
      refine tE.one st en ok fun al1 F1 H1 h1 v d e1 s1 en1 r1 o1 => ?_
      rw [key r1]
      cases r1 <;> exact o1.val s1 (.bl _)
    · refine PT.of (pt_cmp (pc_notN ha) rfl) ?_
      rintro sg H Q ⟨al, F, h0, s, st, en, ok⟩
      have ok2 : okR X.K (bpost Q) (xpE X.K X.mg W sg) al F H ((ev cl gl a s h0).bind fun x h1 => .ok (!(match x with | .non => true | _ => false)) h1) := by
        simp only [ev] at ok
        cases q : ev cl gl a s h0 with
        | ok x h1 => rw [q] at ok; cases x <;> exact ok
        | exc e h1 => rw [q] at ok; exact ok
        | bad => rw [q] at ok; exact ok
      refine tE.one st en ok2 fun al1 F1 H1 h1 v d e1 s1 en1 r1 o1 => ?_
      exact ⟨_, rfl, by rw [key r1]; exact o1.now s1⟩
theorem s_neg {a : ME} {l : Expr} {pos : Pos} (ha : PE X l (RE cl gl X W a)) : PE X (.UnaryOp .USub l pos) (RE cl gl X W (.neg a)) := by
  refine PE.of (pe_un unr_neg ha) ?_
  rintro sg H Q ⟨al, F, h0, s, st, en, ok⟩
  simp only [ev] at ok
  exact tE.one st en ok fun al1 F1 H1 h1 v d e1 s1 en1 r1 o1 => ⟨al1, F1, h1, d, _, s1, r1, o1⟩
theorem s_not {a : ME} {l : Expr} {pos : Pos} (ha : PE X l (RE cl gl X W a)) (hb : PT X l (RT cl gl X W a)) : PE X (.UnaryOp .Not l pos) (RE cl gl X W (.not a)) ∧ PT X (.UnaryOp .Not l pos) (RT cl gl X W (.not a)) := by
  constructor
  · refine PE.of (pe_notT ha) ?_
    rintro sg H Q ⟨al, F, h0, s, st, en, ok⟩
    simp only [ev] at ok
    refine tE.one st en ok fun al1 F1 H1 h1 v d e1 s1 en1 r1 o1 => ?_
    obtain ⟨b, hb, o2⟩ := truth_of s1 r1 o1
    exact ⟨b, hb, o2.val s1 (.bl _)⟩
  · refine PT.of (pt_not hb) ?_
    rintro sg H Q ⟨al, F, h0, s, st, en, ok⟩
    have ok2 : okR X.K (bpost Q) (xpE X.K X.mg W sg) al F H ((ev cl gl a s h0).bind fun x h1 => (truthR x h1).bind fun b h2 => .ok (!b) h2) := by
      simp only [ev] at ok
      cases q : ev cl gl a s h0 with
      | ok x h1 =>
        rw [q] at ok
        simp only [Res.bind_ok] at ok ⊢
        cases q2 : truthR x h1 with
        | ok y h2 => rw [q2] at ok; exact ok
        | exc e h1 => rw [q2] at ok; exact ok
        | bad => rw [q2] at ok; exact ok
      | exc e h1 => rw [q] at ok; exact ok
      | bad => rw [q] at ok; exact ok
    exact tT.one st en ok2 fun al1 F1 H1 h1 d e1 s1 en1 o1 => o1.now s1
theorem bind_assoc' {t u w : Type} (r : Res t) (f : t → Hc → Res u) (g : u → Hc → Res w) : (r.bind f).bind g = r.bind fun x h => (f x h).bind g := by cases r <;> rfl
theorem s_ite {c a b : ME} {x y z : Expr} {pos : Pos} (hc : PT X x (RT cl gl X W c)) (ha : PE X y (RE cl gl X W a)) (hb : PE X z (RE cl gl X W b)) (ha2 : PT X y (RT cl gl X W a)) (hb2 : PT X z (RT cl gl X W b)) :
    PE X (.IfExp x y z pos) (RE cl gl X W (.ite c a b)) ∧ PT X (.IfExp x y z pos) (RT cl gl X W (.ite c a b)) := by
  constructor
  · refine PE.of (pe_ifExp hc ha hb) ?_
    rintro sg H Q ⟨al, F, h0, s, st, en, ok⟩
    simp only [ev] at ok
    refine tT.one st en ok fun al1 F1 H1 h1 d e1 s1 en1 o1 => ?_
    cases d with
    | true => exact ⟨al1, F1, h1, s, s1, en1, o1⟩
    | false => exact ⟨al1, F1, h1, s, s1, en1, o1⟩
  · have base : PT X (.IfExp x y z pos) (fun sg H Q => RT cl gl X W c sg H fun d H1 => if d = true then RT cl gl X W a sg H1 Q else RT cl gl X W b sg H1 Q) := by
      refine ⟨fun pins s sg H Q I h => ?_⟩
      rw [PySem.isTrue]
      refine wpAny_bind (thn (hc.run pins s sg H _ I h) fun d s1 ⟨H1, I1, q1⟩ => ?_)
      cases d with
      | true => exact ha2.run pins s1 sg H1 Q I1 q1
      | false => exact hb2.run pins s1 sg H1 Q I1 q1
    refine PT.of base ?_
    rintro sg H Q ⟨al, F, h0, s, st, en, ok⟩
    simp only [ev, bind_assoc'] at ok
    refine tT.one st en ok fun al1 F1 H1 h1 d e1 s1 en1 o1 => ?_
    cases d with
    | true => exact ⟨al1, F1, h1, s, s1, en1, o1⟩
    | false => exact ⟨al1, F1, h1, s, s1, en1, o1⟩
end
end Dn

set_option Elab.async false
set_option linter.all false
set_option maxRecDepth 100000
set_option maxHeartbeats 1000000
/-! soundness: argument lists, displays, subscripts, calls -/
namespace Dn
open PySem PySem.Spec PyProof.Rows L2

section
variable {I : Inf} {N : List Str} {sc : Scope} {cl : Nat → List Dv → Hc → Res Dv} {gl : List Dv} {X : Cx} {W : WX}

theorem s_nil : PA X [] (RA cl gl X W .nil) := by
  refine PA.of pa_nil ?_
  rintro sg H Q ⟨al, F, h0, s, st, en, ok⟩
  simp only [evs] at ok
  exact ok.now st [] .nil
theorem s_cons {m : ME} {ms : MEs} {e : Expr} {es : List Expr} (ha : PE X e (RE cl gl X W m)) (hb : PA X es (RA cl gl X W ms)) (hs : starEach (e :: es) X.env = (false, eval e X.env) :: starEach es X.env) : PA X (e :: es) (RA cl gl X W (.cons m ms)) := by
  refine PA.of (pa_cons ha hb hs) ?_
  rintro sg H Q ⟨al, F, h0, s, st, en, ok⟩
  simp only [evs] at ok
  exact tE.one st en ok fun al1 F1 H1 h1 v d e1 s1 en1 r1 o1 => tA.one s1 en1 o1 fun al2 F2 H2 h2 vs ds e2 s2 en2 r2 o2 => o2.now s2 (v :: vs) (.cons (r1.ext e2) r2)

/-! ### and, or -/
theorem s_b1 {op : BoolOp} {conj : Bool} {m : ME} {e : Expr} {pos : Pos} (hop : op = if conj then .And else .Or) (ha : PE X e (RE cl gl X W m)) (hb : PT X e (RT cl gl X W m)) :
    PE X (.BoolOp op [e] pos) (tB X.K X.mg cl gl W conj (.cons m .nil)) ∧ PW X (.BoolOp op [e] pos) (tBt X.K X.mg cl gl W conj (.cons m .nil)) := by
  have e1 : ∀ s h, evB cl gl conj (.cons m .nil) s h = ev cl gl m s h := fun s h => by simp only [evB]
  constructor
  · refine PE.of (pe_one ha) ?_
    rintro sg H Q ⟨al, F, h0, s, st, en, ok⟩
    rw [e1] at ok
    exact ⟨al, F, h0, s, st, en, ok⟩
  · have base : PW X (.BoolOp op [e] pos) (RT cl gl X W m) := by
      subst hop
      cases conj with
      | true => exact pw_and1 hb
      | false => exact pw_or1 hb
    refine PW.of base ?_
    rintro sg H Q ⟨al, F, h0, s, st, en, ok⟩
    rw [e1] at ok
    exact ⟨al, F, h0, s, st, en, ok⟩
theorem s_b2 {op : BoolOp} {conj : Bool} {m m' : ME} {ms : MEs} {e e' : Expr} {es : List Expr} {pos : Pos} (hop : op = if conj then .And else .Or) (ha : PE X e (RE cl gl X W m)) (hb : PT X e (RT cl gl X W m))
    (hc : PE X (.BoolOp op (e' :: es) pos) (tB X.K X.mg cl gl W conj (.cons m' ms))) (hd : PW X (.BoolOp op (e' :: es) pos) (tBt X.K X.mg cl gl W conj (.cons m' ms))) :
    PE X (.BoolOp op (e :: e' :: es) pos) (tB X.K X.mg cl gl W conj (.cons m (.cons m' ms))) ∧ PW X (.BoolOp op (e :: e' :: es) pos) (tBt X.K X.mg cl gl W conj (.cons m (.cons m' ms))) := by
  have e1 : ∀ s h, evB cl gl conj (.cons m (.cons m' ms)) s h = (ev cl gl m s h).bind fun x h1 => (truthR x h1).bind fun b h2 => if b == conj then evB cl gl conj (.cons m' ms) s h2 else .ok x h2 := fun s h => by simp only [evB]
  constructor
  · subst hop
    cases conj with
    | true =>
      refine PE.of (pe_andT ha hc) ?_
      rintro sg H Q ⟨al, F, h0, s, st, en, ok⟩
      rw [e1] at ok
      refine tE.one st en ok fun al1 F1 H1 h1 v d e1 s1 en1 r1 o1 => ?_
      obtain ⟨b, hb, o2⟩ := truth_of s1 r1 o1
      refine ⟨b, hb, ?_⟩
      cases b with
      | true => rw [if_pos rfl]; exact ⟨al1, F1, h1, s, s1, en1, o2⟩
      | false => rw [if_neg Bool.false_ne_true]; exact o2.val s1 r1
    | false =>
      refine PE.of (pe_orT ha hc) ?_
      rintro sg H Q ⟨al, F, h0, s, st, en, ok⟩
      rw [e1] at ok
      refine tE.one st en ok fun al1 F1 H1 h1 v d e1 s1 en1 r1 o1 => ?_
      obtain ⟨b, hb, o2⟩ := truth_of s1 r1 o1
      refine ⟨b, hb, ?_⟩
      cases b with
      | false => rw [if_neg Bool.false_ne_true]; exact ⟨al1, F1, h1, s, s1, en1, o2⟩
      | true => rw [if_pos rfl]; exact o2.val s1 r1
  · have tr : ∀ (x : Dv) (h : Hc) (b : Bool) (h' : Hc), truthR x h = .ok b h' → h' = h ∧ truthR x h = .ok b h := fun x h b h' q => by
      unfold truthR at q ⊢
      cases z : truth h x with
      | none => rw [z] at q; cases q
      | some c => rw [z] at q; cases q; exact ⟨rfl, rfl⟩
    have e2 : ∀ s h, ((evB cl gl conj (.cons m (.cons m' ms)) s h).bind truthR) = (ev cl gl m s h).bind fun x h1 => (truthR x h1).bind fun b h2 => if b == conj then (evB cl gl conj (.cons m' ms) s h2).bind truthR else .ok b h2 := fun s h => by
      rw [e1]
      cases q : ev cl gl m s h with
      | ok x h1 =>
        simp only [Res.bind_ok]
        cases q2 : truthR x h1 with
        | ok b h2 =>
          simp only [Res.bind_ok]
          cases q3 : (b == conj) with
          | true => rfl
          | false =>
            obtain ⟨rfl, q4⟩ := tr x h1 b h2 q2
            show truthR x h2 = .ok b h2
            exact q4
        | exc e h1 => rfl
        | bad => rfl
      | exc e h1 => rfl
      | bad => rfl
    subst hop
    cases conj with
    | true =>
      refine PW.of (pw_and hb hd) ?_
      rintro sg H Q ⟨al, F, h0, s, st, en, ok⟩
      rw [e2] at ok
      refine tT.one st en ok fun al1 F1 H1 h1 d e1 s1 en1 o1 => ?_
      cases d with
      | true => rw [if_pos rfl]; exact ⟨al1, F1, h1, s, s1, en1, o1⟩
      | false => rw [if_neg Bool.false_ne_true]; exact o1.now s1
    | false =>
      refine PW.of (pw_or hb hd) ?_
      rintro sg H Q ⟨al, F, h0, s, st, en, ok⟩
      rw [e2] at ok
      refine tT.one st en ok fun al1 F1 H1 h1 d e1 s1 en1 o1 => ?_
      cases d with
      | false => rw [if_neg Bool.false_ne_true]; exact ⟨al1, F1, h1, s, s1, en1, o1⟩
      | true => rw [if_pos rfl]; exact o1.now s1

/-! ### displays -/
theorem s_tup {ms : MEs} {es : List Expr} {k : Nat} {pos : Pos} (h : PA X es (RA cl gl X W ms)) : PE X (.Tuple es k pos) (RE cl gl X W (.tup ms)) := by
  refine PE.of (pe_tup h) ?_
  rintro sg H Q ⟨al, F, h0, s, st, en, ok⟩
  simp only [ev] at ok
  refine tA.one st en ok fun al1 F1 H1 h1 vs ds e1 s1 en1 r1 o1 => ?_
  by_cases z : SZok ds.length = true
  · rw [if_pos z] at o1
    exact ⟨by rw [r1.length, SZ_eq]; exact SZok_iff.mp z, o1.newT s1 r1⟩
  · rw [if_neg z] at o1; exact False.elim o1
theorem s_lst {ms : MEs} {es : List Expr} {pos : Pos} (h : PA X es (RA cl gl X W ms)) : PE X (.List es pos) (RE cl gl X W (.lst ms)) := by
  refine PE.of (pe_lst h) ?_
  rintro sg H Q ⟨al, F, h0, s, st, en, ok⟩
  simp only [ev] at ok
  refine tA.one st en ok fun al1 F1 H1 h1 vs ds e1 s1 en1 r1 o1 => ?_
  by_cases z : SZok ds.length = true
  · rw [if_pos z] at o1
    exact ⟨by rw [r1.length, SZ_eq]; exact SZok_iff.mp z, o1.newL s1 r1⟩
  · rw [if_neg z] at o1; exact False.elim o1
theorem s_new {ms : MEs} {es : List Expr} {pos : Pos} (h : PA X es (RA cl gl X W ms)) : PE X (.List es pos) (RE cl gl X W (.new ms)) := by
  refine PE.of (pe_lst h) ?_
  rintro sg H Q ⟨al, F, h0, s, st, en, ok⟩
  simp only [ev] at ok
  refine tA.one st en ok fun al1 F1 H1 h1 vs ds e1 s1 en1 r1 o1 => ?_
  by_cases z : SZok ds.length = true
  · rw [if_pos z] at o1
    refine ⟨by rw [r1.length, SZ_eq]; exact SZok_iff.mp z, fun p hp => ?_⟩
    have hF : F1 p = none := by
      cases q : F1 p with
      | none => rfl
      | some u => rw [s1.sub _ _ q] at hp; cases hp
    refine o1 (al1 ++ [p]) F1 (upd H1 p (.lst vs)) (.newCell s1 hp) (s1.newCell hp ⟨hF, vs, upd_same, r1.ext (.newCell (o := .lst vs) s1 hp)⟩) _ (.loc ?_)
    rw [← s1.len]
    simp
  · rw [if_neg z] at o1; exact False.elim o1

/-! ### subscripts -/
theorem s_idx (G : Gd I N sc cl gl X W) {a b : ME} {x i : Expr} {pos : Pos} (ha : PE X x (RE cl gl X W a)) (hb : PE X i (RE cl gl X W b)) (hp : PlainIx i) : PE X (.Subscript x i pos) (RE cl gl X W (.idx a b)) := by
  refine PE.of (pe_ix (ixr G.units) ha hb hp) ?_
  rintro sg H Q ⟨al, F, h0, s, st, en, ok⟩
  simp only [ev] at ok
  exact tE.two st en ok fun al2 F2 H2 h2 v w d e s2 en2 r1 r2 o2 => ⟨al2, F2, h2, d, e, _, s2, r1, r2, o2⟩
theorem s_none : PO X none (tO X.K X.mg cl gl W .none) := by
  refine PO.of po_none ?_
  rintro sg H Q ⟨al, F, h0, s, st, en, ok⟩
  simp only [evO] at ok
  exact ok.now st
theorem s_some {m : ME} {e : Expr} (ha : PE X e (RE cl gl X W m)) : PO X (some e) (tO X.K X.mg cl gl W (.some m)) := by
  refine PO.of (po_some ha) ?_
  rintro sg H Q ⟨al, F, h0, s, st, en, ok⟩
  simp only [evO] at ok
  refine tE.one st en ok fun al1 F1 H1 h1 v d e1 s1 en1 r1 o1 => ?_
  cases r1 with
  | int i => exact ⟨i, rfl, o1.now s1⟩
  | _ => exact False.elim o1
theorem s_sl {a : ME} {lo hi : MO} {x : Expr} {l u : Option Expr} {p pos : Pos} (ha : PE X x (RE cl gl X W a)) (hl : PO X l (tO X.K X.mg cl gl W lo)) (hu : PO X u (tO X.K X.mg cl gl W hi)) :
    PE X (.Subscript x (.Slice l u none p) pos) (RE cl gl X W (.sl a lo hi)) := by
  refine PE.of (pe_slice slr ha hl hu) ?_
  rintro sg H Q ⟨al, F, h0, s, st, en, ok⟩
  simp only [ev] at ok
  refine tE.one st en ok fun al1 F1 H1 h1 v d e1 s1 en1 r1 o1 => tO.one s1 en1 o1 fun al2 F2 H2 h2 l e2 s2 en2 o2 => tO.one s2 en2 o2 fun al3 F3 H3 h3 u e3 s3 en3 o3 => ?_
  exact ⟨al3, F3, h3, d, _, s3, (r1.ext e2).ext e3, o3⟩
/-- s[::-1], xs[::-1] -/
theorem revS_idx (n : Nat) : Builtin.Str.strSliceIndices none none (-1) n = (List.range n).map fun k => n - 1 - k := by
  unfold Builtin.Str.strSliceIndices
  exact PySem.W.krv_sliceRange n
theorem revS_made (a : List Nat) (t : Tok) (k : Tok) : sliceMade (mkS a) t none none (some (-1, k)) = .str (mkS a.reverse) := by
  have e : ((List.range a.length).map fun k => a.length - 1 - k).filterMap (fun i => (mkS a).cps[i]?) = a.reverse := by
    rw [PySem.W.krv_range, List.filterMap_reverse]
    have := PySem.W.krv_all a.toArray
    simp only [List.size_toArray] at this
    simp only [mkS]
    rw [this]
  have e2 : slicePicked (mkS a) none none (some (-1, k)) = (List.range a.length).map fun k => a.length - 1 - k := by
    unfold slicePicked
    simp only [Option.map_some, Option.map_none, Option.getD_some, mkS_len]
    exact revS_idx a.length
  unfold sliceMade
  rw [e2, e]
  rfl
def tRevS (te : TE) : TE := fun sg H Q => te sg H fun x H1 => ∃ l, x = .str (mkS l) ∧ l.length ≤ SZ ∧ Q (.str (mkS l.reverse)) H1
theorem pe_revS {te : TE} {x : Expr} {k : Nat} {p1 p2 p3 pos : Pos} (ha : PE X x te) : PE X (.Subscript x (.Slice none none (some (.UnaryOp .USub (.Constant (.int 1) k p1) p2)) p3) pos) (tRevS te) := by
  refine ⟨fun pins s sg H Q I hq => ?_⟩
  refine Subscript_ (thn (ha.run pins s sg H _ I hq) fun v s1 ⟨x0, H1, I1, r1, l, e1, hl, q1⟩ => ?_)
  subst e1
  obtain ⟨t, rfl⟩ := r1
  have hst : PO X (some (.UnaryOp .USub (.Constant (.int 1) k p1) p2)) (tPart (tUn (rU fun i => .int (-i)) (L2.tC (.int 1)))) := po_some (pe_un un_neg pe_int)
  refine wpAny_Slice (thn (po_none.run pins s1 sg H1 (fun o H2 => o = none ∧ H2 = H1) I1 ⟨rfl, rfl⟩) fun vl s2 ⟨l2, H2, I2, pl, el, e2⟩ => ?_)
  subst el e2
  refine thn (po_none.run pins s2 sg H2 (fun o H3 => o = none ∧ H3 = H2) I2 ⟨rfl, rfl⟩) fun vu s3 ⟨u, H3, I3, pu, eu, e3⟩ => ?_
  subst eu e3
  refine thn (hst.run pins s3 sg H3 (fun o H4 => o = some (-1) ∧ H4 = H3) I3 ⟨1, rfl, -1, rfl, rfl, rfl⟩) fun vs s4 ⟨o, H4, I4, ps, eo, e4⟩ => ?_
  subst eo e4
  have I5 : L2.Inv X pins sg H4 { s4 with heap := s4.heap.push { cls := .type "slice", data := .fields #[vl, vu, vs] } } := I4.kept (t' := s4.toks) fun b ob q => Heap.get?_push_of_some _ q
  show wpAny (model X.prog X.w) X.A (subscriptTail x (.Slice none none (some (.UnaryOp .USub (.Constant (.int 1) k p1) p2)) p3) (.str (mkS l) t) (.ref s4.heap.objs.size)) (EP X pins sg Q) X.xe { s4 with heap := s4.heap.push { cls := .type "slice", data := .fields #[vl, vu, vs] } }
  refine tail_any (ops := [.str (mkS l) t, .ref s4.heap.objs.size]) (typeIs_str _ _ _) (PySem.F.slot_str_getitem.lookup) ?_ (by with_unfolding_all rfl)
  obtain ⟨l3, rfl, el⟩ := IsPart.raw pl
  obtain ⟨u3, rfl, eu⟩ := IsPart.raw pu
  obtain ⟨s5, rfl, es⟩ := IsPart.raw ps
  cases l3 with
  | some _ => cases el
  | none =>
    cases u3 with
    | some _ => cases eu
    | none =>
      cases s5 with
      | none => cases es
      | some z =>
        obtain ⟨z1, z2⟩ := z
        have ez : z1 = -1 := Option.some.inj es
        subst ez
        refine wpAny_getItem_str_slice (l := none) (u := none) (st := some (-1, z2)) ⟨_, Heap.get?_push_size _ rfl, rfl, rfl⟩ rfl ?_
        rw [revS_made]
        refine ⟨?_, .str (mkS l.reverse), H4, I5.tok _, ⟨_, rfl⟩, q1⟩
        rw [mkS_len, List.length_reverse, SZ_eq]
        exact hl
theorem s_rev {a : ME} {x : Expr} {k : Nat} {p1 p2 p3 pos : Pos} (ha : PE X x (RE cl gl X W a)) : PE X (.Subscript x (.Slice none none (some (.UnaryOp .USub (.Constant (.int 1) k p1) p2)) p3) pos) (RE cl gl X W (.rev a)) := by
  refine PE.byC ?_
  rintro sg H Q ⟨al, F, h0, s, st, en, ok⟩
  simp only [ev] at ok
  have lists : (∀ l h', ev cl gl a s h0 ≠ .ok (.str l) h') → ∃ t', PE X (.Subscript x (.Slice none none (some (.UnaryOp .USub (.Constant (.int 1) k p1) p2)) p3) pos) t' ∧ t' sg H Q := fun ns => by
    refine ⟨_, pe_revL ha, al, F, h0, s, st, en, ?_⟩
    cases q : ev cl gl a s h0 with
    | ok d h1 =>
      rw [q] at ok
      intro al1 F1 H1 e1 s1 v r1
      have o1 := okR.ext ok e1 s1
      simp only [Res.bind_ok] at o1
      have key : okR X.K (vpost X.K Q) (xpE X.K X.mg W sg) al1 F1 H1 (match lstOf h1 d with
        | some xs => .ok (.lst xs.reverse) h1
        | none => .bad) := by
        cases d with
        | str l => exact absurd q (ns l h1)
        | _ => exact o1
      cases q2 : lstOf h1 d with
      | none => rw [q2] at key; exact False.elim key
      | some ys =>
        rw [q2] at key
        obtain ⟨p, vs, rfl, hp, rp⟩ := s1.seqL r1 q2
        exact ⟨p, vs, rfl, hp, key.newL s1 rp.reverse⟩
    | exc e h1 => rw [q] at ok; exact ok
    | bad => rw [q] at ok; exact ok
  cases q : ev cl gl a s h0 with
  | ok d h1 =>
    cases d with
    | str l =>
      refine ⟨_, pe_revS ha, al, F, h0, s, st, en, ?_⟩
      rw [q] at ok ⊢
      intro al1 F1 H1 e1 s1 v r1
      obtain ⟨rfl, hs⟩ := r1.strV
      refine ⟨l, rfl, hs.len, ?_⟩
      exact ok al1 F1 H1 e1 s1 _ (.str _ (hs.sub (by simp) fun c hc => List.mem_reverse.mp hc))
    | _ => exact lists (fun l h' z => by rw [q] at z; cases z)
  | _ => exact lists (fun l h' z => by rw [q] at z; cases z)

/-! ### built-in calls -/
theorem s_bi (G : Gd I N sc cl gl X W) {f : BI} {ms : MEs} {x : Str} {es : List Expr} {p pos : Pos} {u : Value} (hf : biN f = some (x, u)) (hg : glB sc x = true) (ha : PA X es (RA cl gl X W ms)) (hk : chkEs I N sc ms es = true) :
    PE X (.Call (.Name x p) es [] pos) (RE cl gl X W (.bi f ms)) := by
  have gl' : Gl X x := by show X.env.scope.names.lookup x = _; rw [G.sc]; exact glB_ok hg
  cases es with
  | nil =>
    refine ⟨fun pins s sg H Q I hq => ?_⟩
    obtain ⟨al, F, h0, s', st, en, ok⟩ := hq
    cases ms with
    | nil => simp only [ev, evs, Res.bind_ok, biD_nil] at ok; exact False.elim ok
    | cons m ms => simp [chkEs] at hk
  | cons e es =>
    cases ms with
    | nil => simp [chkEs] at hk
    | cons m ms =>
      have hk' := hk
      simp only [chkEs, Bool.and_eq_true] at hk'
      have he := star_ok hk'.1 es X.env
      have hpl := stars_ok hk'.2 X.env pos
      have key : ∀ sg H Q, RE cl gl X W (.bi f (.cons m ms)) sg H Q → tCB (rBI X.K f) (RA cl gl X W (.cons m ms)) sg H Q := by
        rintro sg H Q ⟨al, F, h0, s, st, en, ok⟩
        rw [ev] at ok
        exact tA.one st en ok fun al1 F1 H1 h1 vs ds e1 s1 en1 r1 o1 => ⟨al1, F1, h1, ds, _, s1, r1, o1⟩
      have fr : ∀ y ∈ freeNames, X.mg y = none := G.free
      cases f with
      | len => cases hf; exact PE.of (pe_callB callr_len gl' (fr _ (by simp [freeNames])) (by decide +kernel) ha (by decide +kernel) (by decide +kernel) he hpl) key
      | abs => cases hf; exact PE.of (pe_callB callr_abs gl' (fr _ (by simp [freeNames])) (by decide +kernel) ha (by decide +kernel) (by decide +kernel) he hpl) key
      | int => cases hf; exact PE.of (pe_callTy callr_int gl' (fr _ (by simp [freeNames])) (by decide +kernel) ha (by decide +kernel) (by decide +kernel) he hpl) key
      | all => cases hf; exact PE.of (pe_callB (callr_all G.calm) gl' (fr _ (by simp [freeNames])) (by decide +kernel) ha (by decide +kernel) (by decide +kernel) he hpl) key
      | any => cases hf; exact PE.of (pe_callB (callr_any G.calm) gl' (fr _ (by simp [freeNames])) (by decide +kernel) ha (by decide +kernel) (by decide +kernel) he hpl) key
      | list => cases hf; exact PE.of (pe_callTy (callr_list G.calm) gl' (fr _ (by simp [freeNames])) (by decide +kernel) ha (by decide +kernel) (by decide +kernel) he hpl) key
      | listN => cases hf; exact PE.of (pe_callTy (callr_listN G.calm) gl' (fr _ (by simp [freeNames])) (by decide +kernel) ha (by decide +kernel) (by decide +kernel) he hpl) key
      | tuple => cases hf; exact PE.of (pe_callTy callr_tuple gl' (fr _ (by simp [freeNames])) (by decide +kernel) ha (by decide +kernel) (by decide +kernel) he hpl) key
      | max => cases hf; exact PE.of (pe_callB (callr_max G.calm) gl' (fr _ (by simp [freeNames])) (by decide +kernel) ha (by decide +kernel) (by decide +kernel) he hpl) key
      | min => cases hf; exact PE.of (pe_callB (callr_min G.calm) gl' (fr _ (by simp [freeNames])) (by decide +kernel) ha (by decide +kernel) (by decide +kernel) he hpl) key
      | sorted => cases hf; exact PE.of (pe_callB callr_sorted gl' (fr _ (by simp [freeNames])) (by decide +kernel) ha (by decide +kernel) (by decide +kernel) he hpl) key
      | sum => cases hf; exact PE.of (pe_callB (callr_sum G.calm) gl' (fr _ (by simp [freeNames])) (by decide +kernel) ha (by decide +kernel) (by decide +kernel) he hpl) key
      | _ => cases hf

theorem s_sset (G : Gd I N sc cl gl X W) {a : ME} {y : Expr} {p q r pos : Pos} (hx : glB sc "sorted" = true) (hg : glB sc "set" = true) (hk : chkE I N sc a y = true) (ha : PE X y (RE cl gl X W a)) :
    PE X (.Call (.Name "sorted" p) [.Call (.Name "set" q) [y] [] r] [] pos) (RE cl gl X W (.bi1 .sset a)) := by
  have gl1 : Gl X "sorted" := by show X.env.scope.names.lookup _ = _; rw [G.sc]; exact glB_ok hx
  have gl2 : Gl X "set" := by show X.env.scope.names.lookup _ = _; rw [G.sc]; exact glB_ok hg
  refine PE.of (pe_sset G.calm gl1 (G.free _ (by simp [freeNames])) gl2 (G.free _ (by simp [freeNames])) ha (star_ok hk [] X.env)) ?_
  rintro sg H Q ⟨al, F, h0, s, st, en, ok⟩
  simp only [ev] at ok
  refine tE.one st en ok fun al1 F1 H1 h1 v d e1 s1 en1 r1 o1 => ?_
  cases r1 with
  | str l hl =>
    have o2 : okR X.K (vpost X.K Q) (xpE X.K X.mg W sg) al1 F1 H1 (if (signs l).length < 64 then .ok (.lst ((signs l).map fun c => .str [c])) h1 else .bad) := o1
    by_cases z : (signs l).length < 64
    · rw [if_pos z] at o2
      refine ⟨mkS l, rfl, by rw [mkS_cps, metT_len]; exact z, fun ss p hp hs hn => ?_⟩
      rw [mkS_cps] at hp
      have e := signs_unique hp hs
      rw [e, List.map_map]
      exact o2.newL s1 (vs := (signs l).map fun c => V.str (mkS [c])) (signs_R ⟨by unfold SZ; omega, fun c hc => hl.sgn c ((signs_mem c l).mp hc)⟩) p hn
    · rw [if_neg z] at o2; exact False.elim o2
  | _ => exact False.elim o1
theorem s_lset (G : Gd I N sc cl gl X W) {a : ME} {y : Expr} {p q r pos : Pos} (hx : glB sc "len" = true) (hg : glB sc "set" = true) (hk : chkE I N sc a y = true) (ha : PE X y (RE cl gl X W a)) :
    PE X (.Call (.Name "len" p) [.Call (.Name "set" q) [y] [] r] [] pos) (RE cl gl X W (.bi1 .lset a)) := by
  have gl1 : Gl X "len" := by show X.env.scope.names.lookup _ = _; rw [G.sc]; exact glB_ok hx
  have gl2 : Gl X "set" := by show X.env.scope.names.lookup _ = _; rw [G.sc]; exact glB_ok hg
  refine PE.of (pe_lset G.calm gl1 (G.free _ (by simp [freeNames])) gl2 (G.free _ (by simp [freeNames])) ha (star_ok hk [] X.env)) ?_
  rintro sg H Q ⟨al, F, h0, s, st, en, ok⟩
  simp only [ev] at ok
  refine tE.one st en ok fun al1 F1 H1 h1 v d e1 s1 en1 r1 o1 => ?_
  cases r1 with
  | str l hl =>
    have o2 : okR X.K (vpost X.K Q) (xpE X.K X.mg W sg) al1 F1 H1 (if (signs l).length < 64 then .ok (.int (signs l).length) h1 else .bad) := o1
    by_cases z : (signs l).length < 64
    · rw [if_pos z] at o2
      refine ⟨mkS l, rfl, by rw [mkS_cps, metT_len]; exact z, ?_⟩
      rw [mkS_cps, metT_len]
      exact o2.val s1 (.int _)
    · rw [if_neg z] at o2; exact False.elim o2
  | _ => exact False.elim o1
theorem s_dnew {pos : Pos} : PE X (.Dict [] [] pos) (RE cl gl X W .dnew) := by
  refine PE.of pe_dnewK ?_
  rintro sg H Q ⟨al, F, h0, s, st, en, ok⟩
  simp only [ev] at ok
  intro p hp
  have hF : F p = none := by
    cases q : F p with
    | none => rfl
    | some u => rw [st.sub _ _ q] at hp; cases hp
  refine ok (al ++ [p]) F (upd H p (.dK [])) (.newCell st hp) (st.newCell hp ⟨hF, [], upd_same, rfl, .nil⟩) _ (.loc ?_)
  rw [← st.len]
  simp

/-! ### isinstance -/
theorem pe_ty (G : Gd I N sc cl gl X W) {t : Ty} {z : Str} {p : Pos} (hz : z = tyS t) (hg : glB sc z = true) : PE X (.Name z p) (L2.tC (.ty (tyS t))) := by
  have gl' : Gl X z := by show X.env.scope.names.lookup z = _; rw [G.sc]; exact glB_ok hg
  subst hz
  have fr : X.mg (tyS t) = none := G.free _ (by cases t <;> simp [freeNames, tyS])
  refine pe_bltn gl' fr (u := .type (tyS t)) ?_ rfl ?_ ?_
  · cases t <;> decide +kernel
  · cases t <;> decide +kernel
  · cases t <;> decide +kernel
theorem s_isi (G : Gd I N sc cl gl X W) {t : Ty} {a : ME} {y : Expr} {z : Str} {p q pos : Pos} (hx : glB sc "isinstance" = true) (hz : z = tyS t) (hg : glB sc z = true) (hk : chkE I N sc a y = true) (ha : PE X y (RE cl gl X W a)) :
    PE X (.Call (.Name "isinstance" p) [y, .Name z q] [] pos) (RE cl gl X W (.bi1 (.isi t) a)) := by
  have gl' : Gl X "isinstance" := by show X.env.scope.names.lookup _ = _; rw [G.sc]; exact glB_ok hx
  have he := star_ok hk [.Name z q] X.env
  have st1 : ∀ (e : Expr) (es : List Expr), (∀ x p, e ≠ .Starred x p) → starEach (e :: es) X.env = (false, eval e X.env) :: starEach es X.env := fun e es h => by
    rw [starEach]; intro x p z; exact h x p z
  refine PE.of (pe_callB call_isi gl' (G.free _ (by simp [freeNames])) PyProof.Rows.boot_isinstance (pa_cons ha (pa_cons (pe_ty G hz hg) pa_nil (st1 _ _ fun _ _ z => by cases z)) he) (by decide +kernel) (by decide +kernel) he (by rw [st1 _ _ fun _ _ z => by cases z]; rfl)) ?_
  rintro sg H Q ⟨al, F, h0, s, st, en, ok⟩
  simp only [ev] at ok
  refine tE.one st en ok fun al1 F1 H1 h1 v d e1 s1 en1 r1 o1 => ?_
  have o2 : okR X.K (vpost X.K Q) (xpE X.K X.mg W sg) al1 F1 H1 (match isTy h1 t d with
    | some b => .ok (.bl b) h1
    | none => .bad) := o1
  cases q2 : isTy h1 t d with
  | none => rw [q2] at o2; exact False.elim o2
  | some b =>
    rw [q2] at o2
    obtain ⟨h2, h3⟩ := tyx_of s1 r1 q2
    exact ⟨v, .ty (tyS t), _, .type (tyS t), b, rfl, .ty _, h2, h3, o2.val s1 (.bl b)⟩
theorem s_isi2 (G : Gd I N sc cl gl X W) {t u : Ty} {a : ME} {y : Expr} {z z2 : Str} {p q q2 q3 pos : Pos} {kk : Nat} (hx : glB sc "isinstance" = true) (hz : z = tyS t) (hg : glB sc z = true) (hz2 : z2 = tyS u) (hg2 : glB sc z2 = true) (hk : chkE I N sc a y = true) (ha : PE X y (RE cl gl X W a)) :
    PE X (.Call (.Name "isinstance" p) [y, .Tuple [.Name z q, .Name z2 q2] kk q3] [] pos) (RE cl gl X W (.bi1 (.isi2 t u) a)) := by
  have gl' : Gl X "isinstance" := by show X.env.scope.names.lookup _ = _; rw [G.sc]; exact glB_ok hx
  have he := star_ok hk [.Tuple [.Name z q, .Name z2 q2] kk q3] X.env
  have st1 : ∀ (e : Expr) (es : List Expr), (∀ x p, e ≠ .Starred x p) → starEach (e :: es) X.env = (false, eval e X.env) :: starEach es X.env := fun e es h => by
    rw [starEach]; intro x p z; exact h x p z
  have ht : PE X (.Tuple [.Name z q, .Name z2 q2] kk q3) (tTup (tCons (L2.tC (.ty (tyS t))) (tCons (L2.tC (.ty (tyS u))) tNil))) :=
    pe_tup (pa_cons (pe_ty G hz hg) (pa_cons (pe_ty G hz2 hg2) pa_nil (st1 _ _ fun _ _ z => by cases z)) (st1 _ _ fun _ _ z => by cases z))
  refine PE.of (pe_callB call_isiT gl' (G.free _ (by simp [freeNames])) PyProof.Rows.boot_isinstance (pa_cons ha (pa_cons ht pa_nil (st1 _ _ fun _ _ z => by cases z)) he) (by decide +kernel) (by decide +kernel) he (by rw [st1 _ _ fun _ _ z => by cases z]; rfl)) ?_
  rintro sg H Q ⟨al, F, h0, s, st, en, ok⟩
  simp only [ev] at ok
  refine tE.one st en ok fun al1 F1 H1 h1 v d e1 s1 en1 r1 o1 => ?_
  refine ⟨by show 2 ≤ sizeLine; decide, fun p hp => ?_⟩
  have o2 : okR X.K (vpost X.K Q) (xpE X.K X.mg W sg) al1 F1 H1 (match isTy h1 t d, isTy h1 u d with
    | some b, some c => .ok (.bl (b || c)) h1
    | _, _ => .bad) := o1
  cases q2 : isTy h1 t d with
  | none => rw [q2] at o2; exact False.elim o2
  | some b =>
    cases q4 : isTy h1 u d with
    | none => rw [q2, q4] at o2; exact False.elim o2
    | some c =>
      rw [q2, q4] at o2
      have s2 := s1.new (o := .tup [.ty (tyS t), .ty (tyS u)]) hp
      have e2 := Ex.new (o := .tup [.ty (tyS t), .ty (tyS u)]) s1 hp
      have r2 := r1.ext e2
      obtain ⟨h2, h3⟩ := tyx_of s2 r2 q2
      obtain ⟨h4, h5⟩ := tyx_of s2 r2 q4
      exact ⟨v, p, _, _, [.type (tyS t), .type (tyS u)], b || c, rfl, upd_same, .cons (.ty _) (.cons (.ty _) .nil), h4, kitAny2 h3 h5, o2 _ _ _ e2 s2 _ (.bl _)⟩
end
end Dn

set_option Elab.async false
set_option linter.all false
set_option maxRecDepth 100000
set_option maxHeartbeats 1000000
/-! soundness: methods, calls of defs, iterators, comprehensions -/
namespace Dn
open PySem PySem.Spec PyProof.Rows L2

section
variable {I : Inf} {N : List Str} {sc : Scope} {cl : Nat → List Dv → Hc → Res Dv} {gl : List Dv} {X : Cx} {W : WX}

/-! ### methods -/
def mtT : MT → String
  | .append => "list" | .pop => "list" | _ => "str"
theorem mt_ty {K : PySem.W.Frag} {al : List Addr} {F H : Hp} {h : Hc} {f : MT} {v : V} {d : Dv} (st : StR K al F H h) (r : Rp K al F v d) (e : mtOk f d h = true) : tyV K (mtT f) v H := by
  have lists : ∀ {n : Nat} {a : Addr}, al[n]? = some a → (lstOf h (.loc n)).isSome = true → tyV K "list" (.ref a) H := fun {n a} h1 e => by
    obtain ⟨xs, q⟩ := Option.isSome_iff_exists.mp e
    obtain ⟨a', vs, e1, ha, _⟩ := st.seqL (.loc h1) q
    cases e1
    exact .inl ⟨rfl, vs, ha⟩
  cases f <;> cases r <;> first | rfl | exact lists (by assumption) e | exact absurd e Bool.false_ne_true
theorem s_mt (G : Gd I N sc cl gl X W) {f : MT} {o : ME} {ms : MEs} {y x : Expr} {xs : List Expr} {nm : Str} {ap pos : Pos} (hf : mtN f = some nm) (hline : (ap.endLine == pos.line) = true) (hlen : xs.length < 20) (hns : noSuper y = true)
    (ho : PE X y (RE cl gl X W o)) (hk : chkEs I N sc ms (x :: xs) = true) (ha : PA X (x :: xs) (RA cl gl X W ms)) : PE X (.Call (.Attribute y nm ap) (x :: xs) [] pos) (RE cl gl X W (.mt f o ms)) := by
  have hbase := base_ok hns nm X.env
  cases ms with
  | nil => simp [chkEs] at hk
  | cons m ms =>
    have hk' := hk
    simp only [chkEs, Bool.and_eq_true] at hk'
    have he := star_ok hk'.1 xs X.env
    have hpl := stars_ok hk'.2 X.env pos
    have hall := stars_all hk X.env pos
    have hfew : ((backTo pos (starEach (x :: xs) X.env)).all (fun x => !x.1) && (backToKw pos (keywordEach [] X.env)).all (fun x => x.1.isSome)
      && decide ((x :: xs).length + ([] : List Keyword).length + (if ([] : List Keyword).isEmpty then 0 else 1) < 30)) = true := by
      rw [hall]
      show (true && true && decide (xs.length + 1 + 0 + 0 < 30)) = true
      rw [decide_eq_true (by omega)]
      rfl
    have go : ∀ sg H Q, RE cl gl X W (.mt f o (.cons m ms)) sg H Q → tBM X.K (mtT f) (rMT X.K f) (RE cl gl X W o) (RA cl gl X W (.cons m ms)) sg H Q := by
      rintro sg H Q ⟨al, F, h0, s, st, en, ok⟩
      rw [ev] at ok
      refine tE.one st en ok fun al1 F1 H1 h1 v d e1 s1 en1 r1 o1 => ?_
      by_cases hb : mtOk f d h1 = true
      · rw [if_pos hb] at o1
        exact ⟨mt_ty s1 r1 hb, tA.one s1 en1 o1 fun al2 F2 H2 h2 vs ds e2 s2 en2 r2 o2 => ⟨al2, F2, h2, d, ds, _, s2, r1.ext e2, r2, o2⟩⟩
      · rw [if_neg hb] at o1; exact False.elim o1
    cases f with
    | join => cases hf; exact PE.of (pe_bm PySem.F.plainAttrs_str PySem.F.slot_str_join PySem.F.type_str_join mtr_join ho ha hbase hfew hline he hpl) go
    | find => cases hf; exact PE.of (pe_bm PySem.F.plainAttrs_str PySem.F.slot_str_find PySem.F.type_str_find mtr_find ho ha hbase hfew hline he hpl) go
    | rfind => cases hf; exact PE.of (pe_bm PySem.F.plainAttrs_str PySem.F.slot_str_rfind PySem.F.type_str_rfind mtr_rfind ho ha hbase hfew hline he hpl) go
    | append => cases hf; exact PE.of (pe_bm PySem.F.plainAttrs_list PySem.F.slot_list_append PySem.F.type_list_append mtr_append ho ha hbase hfew hline he hpl) go
    | _ => cases hf

/-! ### a def is called -/
theorem permL_vals {js : List Nat} {vs : List V} {us : List Value} (r : Vals vs us) : Vals (permL vs js) (permL us js) := by
  unfold permL
  induction js with
  | nil => exact .nil
  | cons j js ih =>
    rw [List.filterMap_cons, List.filterMap_cons]
    cases q : vs[j]? with
    | none => rw [r.none_of q]; exact ih
    | some v =>
      obtain ⟨u, q2, ru⟩ := r.get q
      rw [q2]
      exact .cons ru ih
theorem permL_R {K : PySem.W.Frag} {al : List Addr} {F : Hp} : ∀ {js : List Nat} {vs : List V} {ds es : List Dv}, Rps K al F vs ds → permD ds js = some es → Rps K al F (permL vs js) es ∧ (permL vs js).length = js.length
  | [], vs, ds, es, r, e => by cases e; exact ⟨.nil, rfl⟩
  | j :: js, vs, ds, es, r, e => by
    unfold permD at e
    cases q1 : ds[j]? with
    | none => rw [q1] at e; cases e
    | some d =>
      cases q2 : permD ds js with
      | none => rw [q1, q2] at e; cases e
      | some fs =>
        rw [q1, q2] at e
        cases e
        obtain ⟨v, hv, rv⟩ := r.get q1
        obtain ⟨h1, h2⟩ := permL_R r q2
        unfold permL at h1 h2 ⊢
        rw [List.filterMap_cons, hv]
        exact ⟨.cons rv h1, congrArg Nat.succ h2⟩
/-- the keywords' values -/
theorem s_knil : PK X [] (RA cl gl X W .nil) := ⟨fun pos pins s sg H Q I' q => by
  obtain ⟨al, F, h0, s', st, en, ok⟩ := q
  simp only [evs] at ok
  exact (pk_nil (X := X)).run pos pins s sg H Q I' (ok.now st [] .nil)⟩
theorem s_kcons {m : ME} {ms : MEs} {e : Expr} {nm : Option Str} {kp : Pos} {kws : List Keyword} (ha : PE X e (RE cl gl X W m)) (hb : PK X kws (RA cl gl X W ms)) : PK X (⟨nm, e, kp⟩ :: kws) (RA cl gl X W (.cons m ms)) := by
  have base := pk_cons (nm := nm) (kpos := kp) ha hb
  refine ⟨fun pos pins s sg H Q I' q => base.run pos pins s sg H Q I' ?_⟩
  obtain ⟨al, F, h0, s', st, en, ok⟩ := q
  simp only [evs] at ok
  exact tE.one st en ok fun al1 F1 H1 h1 v d e1 s1 en1 r1 o1 => tA.one s1 en1 o1 fun al2 F2 H2 h2 vs ds e2 s2 en2 r2 o2 => o2.now s2 (v :: vs) (.cons (r1.ext e2) r2)
theorem kw_all : ∀ {kws : List Keyword} {env : Env} {pos : Pos}, kws.all (fun k => k.arg.isSome) = true → (backToKw pos (keywordEach kws env)).all (·.1.isSome) = true
  | [], _, _, _ => rfl
  | ⟨nm, e, p⟩ :: kws, env, pos, h => by
    simp only [List.all_cons, Bool.and_eq_true] at h
    show (nm.isSome && (backToKw pos (keywordEach kws env)).all (·.1.isSome)) = true
    rw [h.1, kw_all h.2]
    rfl
theorem kw_none : ∀ {kws : List Keyword} {env : Env} {pos : Pos}, kws.all (fun k => k.arg.isSome) = true → (backToKw pos (keywordEach kws env)).any (·.1.isNone) = false
  | [], _, _, _ => rfl
  | ⟨nm, e, p⟩ :: kws, env, pos, h => by
    simp only [List.all_cons, Bool.and_eq_true] at h
    show (nm.isNone || (backToKw pos (keywordEach kws env)).any (·.1.isNone)) = false
    rw [kw_none h.2]
    cases nm with
    | none => cases h.1
    | some _ => rfl
theorem kw_names : ∀ {kws : List Keyword} {env : Env} {pos : Pos}, (backToKw pos (keywordEach kws env)).filterMap (·.1) = kws.filterMap fun k => k.arg
  | [], _, _ => rfl
  | ⟨nm, e, p⟩ :: kws, env, pos => by
    show List.filterMap (·.1) ((nm, _) :: backToKw pos (keywordEach kws env)) = _
    rw [List.filterMap_cons, List.filterMap_cons, kw_names]
theorem okR.bindE {K : PySem.W.Frag} {t u : Type} {post : Post u} {xp : XPost} {al : List Addr} {F H : Hp} {r : Res t} {k : t → Hc → Res u} (o : okR K post xp al F H (r.bind k)) :
    okR K (fun al1 F1 H1 h1 x => r = .ok x h1 ∧ okR K post xp al1 F1 H1 (k x h1)) xp al F H r := by
  cases r with
  | ok x h' => exact fun al' F' H' e s => ⟨rfl, okR.ext (show okR K post xp al F H (k x h') from o) e s⟩
  | exc x h' => exact o
  | bad => exact o
def lenM : MEs → Nat
  | .nil => 0
  | .cons _ ms => lenM ms + 1
theorem chk_len : ∀ {ms : MEs} {es : List Expr}, chkEs I N sc ms es = true → es.length = lenM ms
  | .nil, [], _ => rfl
  | .nil, _ :: _, h => by simp [chkEs] at h
  | .cons m ms, [], h => by simp [chkEs] at h
  | .cons m ms, e :: es, h => by
    simp only [chkEs, Bool.and_eq_true] at h
    simp [lenM, chk_len h.2]
theorem evs_len : ∀ {ms : MEs} {s : Env1} {h h1 : Hc} {ds : List Dv}, evs cl gl ms s h = .ok ds h1 → ds.length = lenM ms
  | .nil, s, h, h1, ds, e => by simp only [evs] at e; cases e; rfl
  | .cons m ms, s, h, h1, ds, e => by
    simp only [evs] at e
    cases q : ev cl gl m s h with
    | ok x h2 =>
      rw [q] at e
      simp only [Res.bind_ok] at e
      cases q2 : evs cl gl ms s h2 with
      | ok xs h3 =>
        rw [q2] at e
        simp only [Res.bind_ok] at e
        cases e
        simp [lenM, evs_len q2]
      | exc _ _ => rw [q2] at e; cases e
      | bad => rw [q2] at e; cases e
    | exc _ _ => rw [q] at e; cases e
    | bad => rw [q] at e; cases e
theorem tA.oneE {K : PySem.W.Frag} {mg : Str → Option Value} {sg : L2.St} {H : Hp} {m : MEs} {Q : List V → Hp → Prop} {al : List Addr} {F : Hp} {h : Hc} {s : Env1} {t : Type} {post : Post t} {k : List Dv → Hc → Res t} (st : StR K al F H h) (en : EnvR K al F sg s)
    (ok : okR K post (xpE K mg W sg) al F H ((evs cl gl m s h).bind k))
    (f : ∀ al1 F1 H1 h1 v d, Ex al F H al1 F1 H1 → StR K al1 F1 H1 h1 → EnvR K al1 F1 sg s → Rps K al1 F1 v d → d.length = lenM m → okR K post (xpE K mg W sg) al1 F1 H1 (k d h1) → Q v H1) : tA K mg cl gl W m sg H Q :=
  ⟨al, F, h, s, st, en, ok.bindE.imp fun al1 F1 H1 h1 d e1 s1 o1 v r1 => f al1 F1 H1 h1 v d e1 s1 (en.ext e1) r1 (evs_len o1.1) o1.2⟩
theorem run_usr (G : Gd I N sc cl gl X W) {i : Nat} {ps : List Str} {f : Addr} {fd : FuncData} {k n : Nat} {ks : List Str} {perm : List Nat} (hr : Room k X.A) (F : FnOk X.prog X.w X.K X.mg X.base (L2.CX X.prog X.w) k f fd ps (spF X.K X.mg ps.length (cl i)))
    (hb : BdOk X.K fd ps n ks perm) (hpl : perm.length = ps.length) {pins : List (Addr × Obj)} {sg : L2.St} {H : Hp} {s : Shared} {Q : VK} {us ws : List Value} {vs zs : List V} (I' : L2.Inv X pins sg H s) (r : Vals vs us) (rz : Vals zs ws) (hn : us.length = n) (hw : ws.length = ks.length)
    {al : List Addr} {F' : Hp} {h : Hc} {ds es : List Dv} (st : StR X.K al F' H h) (rd : Rps X.K al F' (vs ++ zs) ds) (hp : permD ds perm = some es) (ok : okR X.K (vpost X.K Q) (xpE X.K X.mg W sg) al F' H (cl i es h)) :
    wpAny (model X.prog X.w) X.A (call (.ref f) us (ks.zip ws)) (EP X pins sg Q) X.xe s := by
  obtain ⟨rp, hl⟩ := permL_R rd hp
  have r2 : Vals (permL (vs ++ zs) perm) (permL (us ++ ws) perm) := permL_vals (r.append rz)
  refine wpAny_call (codeAny_mono (F.run X.A X.stack s H ⟨us, ks.zip ws⟩ (permL (us ++ ws) perm) (permL (vs ++ zs) perm) Q (WE W sg) hr I'.env0 (hb s us ws I'.kIn hn hw) r2 ⟨by rw [hl, hpl], al, F', h, es, st, rp, ok⟩) fun r s' hq => ?_)
  cases r with
  | error e => exact passAt G.takes sg pins H s e s' I' hq
  | ok fl =>
    cases fl with
    | ret u => exact I'.after hq
    | next => exact False.elim hq
    | brk => exact False.elim hq
    | cont => exact False.elim hq
theorem s_call (G : Gd I N sc cl gl X W) {i : Nat} {ms mk : MEs} {perm : List Nat} {x : Str} {ps : List Str} {xs : List Expr} {kws : List Keyword} {p pos : Pos} (hi : I.fns[i]? = some (x, ps)) (hg : glB sc x = true) (hnm : nmB x = true)
    (hkw : kws.all (fun k => k.arg.isSome) = true) (hc : (i, xs.length, kws.filterMap (fun k => k.arg), perm) ∈ I.calls) (hpl : perm.length = ps.length) (hk : chkEs I N sc ms xs = true) (hk2 : chkEs I N sc mk (kws.map fun k => k.value) = true) (ha : PA X xs (RA cl gl X W ms)) (hK : PK X kws (RA cl gl X W mk)) :
    PE X (.Call (.Name x p) xs kws pos) (RE cl gl X W (.call i ms mk perm)) := by
  have gl' : Gl X x := by show X.env.scope.names.lookup x = _; rw [G.sc]; exact glB_ok hg
  obtain ⟨f, fd, k, hm, hkp, hr, F, hb⟩ := G.fn i x ps hi
  have hb := hb _ _ _ hc
  refine ⟨fun pins s sg H Q I' q => ?_⟩
  obtain ⟨al, F', h0, s', st, en, ok⟩ := q
  rw [ev] at ok
  refine wpAny_Call_Name_kw (ld_glob I' gl' hm ?_ (nmB_ok hnm).1)
  have lk : (kws.filterMap fun k => k.arg).length = lenM mk := by
    rw [← chk_len hk2, List.length_map]
    clear hc hk2 hK hb ok
    induction kws with
    | nil => rfl
    | cons a r ih =>
      simp only [List.all_cons, Bool.and_eq_true] at hkw
      rw [List.filterMap_cons]
      cases q : a.arg with
      | none => rw [q] at hkw; exact absurd hkw.1 Bool.false_ne_true
      | some y => simp [ih hkw.2]
  have step : ∀ {us ws : List Value} {s2 : Shared} {vs zs : List V} {al2 : List Addr} {F2 H2 : Hp} {h2 : Hc} {ds es : List Dv}, L2.Inv X pins sg H2 s2 → Vals vs us → Vals zs ws → ds.length = lenM ms → es.length = lenM mk → StR X.K al2 F2 H2 h2 → Rps X.K al2 F2 vs ds → Rps X.K al2 F2 zs es →
      okR X.K (vpost X.K Q) (xpE X.K X.mg W sg) al2 F2 H2 (match permD (ds ++ es) perm with
        | some zs => cl i zs h2
        | none => .bad) → wpAny (model X.prog X.w) X.A (call (.ref f) us ((kws.filterMap fun k => k.arg).zip ws)) (EP X pins sg Q) X.xe s2 := by
    intro us ws s2 vs zs al2 F2 H2 h2 ds es I2 rv rz hn hw st2 r1 r2 o2
    cases q : permD (ds ++ es) perm with
    | none => rw [q] at o2; exact False.elim o2
    | some fs =>
      rw [q] at o2
      exact run_usr G hr F hb hpl I2 rv rz (by rw [← rv.length, r1.length, hn, chk_len hk]) (by rw [← rz.length, r2.length, hw, lk]) st2 (r1.append r2) q o2
  have keys : ∀ {us : List Value} {s1 : Shared} {vs : List V} {al1 : List Addr} {F1 H1 : Hp} {h1 : Hc} {ds : List Dv}, L2.Inv X pins sg H1 s1 → Vals vs us → ds.length = lenM ms → StR X.K al1 F1 H1 h1 → EnvR X.K al1 F1 sg s' → Rps X.K al1 F1 vs ds →
      okR X.K (vpost X.K Q) (xpE X.K X.mg W sg) al1 F1 H1 ((evs cl gl mk s' h1).bind fun ws h2 => match permD (ds ++ ws) perm with
        | some zs => cl i zs h2
        | none => .bad) →
      wpAny (model X.prog X.w) X.A (evalAll ((backToKw pos (keywordEach kws X.env)).map (·.2))) (fun ks s2 => X.K.In s2.heap ∧ wpAny (model X.prog X.w) X.A (call (.ref f) us (((backToKw pos (keywordEach kws X.env)).filterMap (·.1)).zip ks)) (EP X pins sg Q) X.xe s2) X.xe s1 := by
    intro us s1 vs al1 F1 H1 h1 ds I1 rv hn st1 en1 r1 o1
    refine thn (hK.run pos pins s1 sg H1 (fun zs H2 => ∃ al2 F2 h2 es, es.length = lenM mk ∧ StR X.K al2 F2 H2 h2 ∧ Rps X.K al2 F2 vs ds ∧ Rps X.K al2 F2 zs es ∧ okR X.K (vpost X.K Q) (xpE X.K X.mg W sg) al2 F2 H2 (match permD (ds ++ es) perm with
        | some zs => cl i zs h2
        | none => .bad)) I1 (tA.oneE st1 en1 o1 fun al2 F2 H2 h2 zs es e2 s2 en2 r2 l2 o2 => ⟨al2, F2, h2, es, l2, s2, r1.ext e2, r2, o2⟩)) ?_
    intro ws s2 hz
    obtain ⟨zs, H2, I2, rz, al2, F2, h2, es, l2, st2, r1', r2, o2⟩ := hz
    refine ⟨I2.kIn, ?_⟩
    rw [kw_names]
    exact step I2 rv rz hn l2 st2 r1' r2 o2
  have hall := kw_all (env := X.env) (pos := pos) hkw
  have hnone := kw_none (env := X.env) (pos := pos) hkw
  cases xs with
  | nil =>
    cases ms with
    | cons _ _ => simp [chkEs] at hk
    | nil =>
      simp only [evs, Res.bind_ok] at ok
      refine PySem.W.callWith_KW0 (h₀ := X.base) I'.ok.mod.kin hkp hall (keys (us := []) (vs := []) (ds := []) I' .nil rfl st en .nil ok) ?_
      rw [hnone]
      rfl
  | cons e es =>
    cases ms with
    | nil => simp [chkEs] at hk
    | cons m ms =>
      have hk' := hk
      simp only [chkEs, Bool.and_eq_true] at hk'
      have he := star_ok hk'.1 es X.env
      have hpl' := stars_ok hk X.env pos
      refine PySem.W.callWith_KW (h₀ := X.base) I'.ok.mod.kin hkp hall ?_ (by rw [hpl', hnone]; rfl) he
      refine thn (ha.run pos pins s sg H (fun vs H1 => ∃ al1 F1 h1 ds, ds.length = lenM (.cons m ms) ∧ StR X.K al1 F1 H1 h1 ∧ EnvR X.K al1 F1 sg s' ∧ Rps X.K al1 F1 vs ds ∧ okR X.K (vpost X.K Q) (xpE X.K X.mg W sg) al1 F1 H1 ((evs cl gl mk s' h1).bind fun ws h2 => match permD (ds ++ ws) perm with
        | some zs => cl i zs h2
        | none => .bad)) I' (tA.oneE st en ok fun al1 F1 H1 h1 vs ds e1 s1 en1 r1 l1 o1 => ⟨al1, F1, h1, ds, l1, s1, en1, r1, o1⟩)) ?_
      intro us s1 hz
      obtain ⟨vs, H1, I1, rv, al1, F1, h1, ds, l1, st1, en1, r1, o1⟩ := hz
      exact keys I1 rv l1 st1 en1 r1 o1

/-! ### what is walked -/
theorem jw_list {K : PySem.W.Frag} {al : List Addr} {F H : Hp} {a : Addr} {vs : List V} {items : List Dv} (hq : SqL K F a vs) (r : Rps K al F vs items) : JW K (Itl K a) al F H items where
  go := fun i al' F' H' h' e s hi => by
    have q : SqL K H' a vs := SqL.mono s.sub (SqL.mono e.fz hq)
    have hl : i < vs.length := by rw [r.length]; exact hi
    exact ⟨vs, vs[i], q, List.getElem?_eq_getElem hl⟩
  stop := fun al' F' H' h' e s => ⟨vs, SqL.mono s.sub (SqL.mono e.fz hq), by rw [r.length]; exact Nat.le_refl _⟩
  yld := fun i al' F' H' h' x H2 e s hi y => by
    obtain ⟨rfl, y⟩ := y
    have q := y vs (SqL.mono s.sub (SqL.mono e.fz hq))
    obtain ⟨d, hd, rd⟩ := r.getV q
    exact ⟨F', .refl, s, d, hd, rd.ext e⟩
theorem jw_tup {K : PySem.W.Frag} {al : List Addr} {F H : Hp} {a : Addr} {vs : List V} {items : List Dv} (hq : SqT K F a vs) (r : Rps K al F vs items) : JW K (Itt K a) al F H items where
  go := fun i al' F' H' h' e s hi => by
    have q : SqT K H' a vs := SqT.mono s.sub (SqT.mono e.fz hq)
    have hl : i < vs.length := by rw [r.length]; exact hi
    exact ⟨vs, vs[i], q, List.getElem?_eq_getElem hl⟩
  stop := fun al' F' H' h' e s => ⟨vs, SqT.mono s.sub (SqT.mono e.fz hq), by rw [r.length]; exact Nat.le_refl _⟩
  yld := fun i al' F' H' h' x H2 e s hi y => by
    obtain ⟨rfl, y⟩ := y
    have q := y vs (SqT.mono s.sub (SqT.mono e.fz hq))
    obtain ⟨d, hd, rd⟩ := r.getV q
    exact ⟨F', .refl, s, d, hd, rd.ext e⟩
theorem jw_str {K : PySem.W.Frag} {al : List Addr} {F H : Hp} {l : List Nat} (hl : StrOk l) : JW K (Its (mkS l)) al F H (l.map fun c => .str [c]) where
  go := fun i al' F' H' h' e s hi => by
    show i < (mkS l).cps.size
    simpa [mkS] using hi
  stop := fun al' F' H' h' e s => by
    show (mkS l).cps.size ≤ _
    simp [mkS]
  yld := fun i al' F' H' h' x H2 e s hi y => by
    obtain ⟨rfl, c, hc, rfl⟩ := y
    have hc' : l[i]? = some c := by simpa [mkS] using hc
    exact ⟨F', .refl, s, .str [c], by rw [List.getElem?_map, hc']; rfl, .str [c] (hl.one (List.mem_of_getElem? hc'))⟩
theorem rangeL_len : ∀ (n : Nat) (lo : Int), (rangeL lo n).length = n
  | 0, _ => rfl
  | n + 1, lo => by simp [rangeL, rangeL_len n]
theorem rangeL_get : ∀ (n : Nat) (lo : Int) (i : Nat), i < n → (rangeL lo n)[i]? = some (.int (lo + i))
  | 0, _, _, h => absurd h (Nat.not_lt_zero _)
  | n + 1, lo, 0, _ => by simp [rangeL]
  | n + 1, lo, i + 1, h => by
    simp only [rangeL, List.getElem?_cons_succ]
    rw [rangeL_get n (lo + 1) i (by omega)]
    congr 2
    omega
theorem jw_range {K : PySem.W.Frag} {al : List Addr} {F H : Hp} {lo : Int} {n : Nat} : JW K (Itr lo n) al F H (rangeL lo n) where
  go := fun i al' F' H' h' e s hi => by
    rw [rangeL_len] at hi
    exact hi
  stop := fun al' F' H' h' e s => by
    rw [rangeL_len]
    exact Nat.le_refl _
  yld := fun i al' F' H' h' x H2 e s hi y => by
    obtain ⟨rfl, rfl⟩ := y
    rw [rangeL_len] at hi
    exact ⟨F', .refl, s, _, rangeL_get n lo i hi, .int _⟩
theorem enumL_len : ∀ (xs : List Dv) (k : Int), (enumL k xs).length = xs.length
  | [], _ => rfl
  | x :: r, k => by simp [enumL, enumL_len r]
theorem enumL_get : ∀ (xs : List Dv) (k : Int) (i : Nat) (d : Dv), xs[i]? = some d → (enumL k xs)[i]? = some (.tup [.int (k + i), d])
  | [], _, _, _, h => by simp at h
  | x :: r, k, 0, d, h => by simp at h; subst h; simp [enumL]
  | x :: r, k, i + 1, d, h => by
    simp only [enumL, List.getElem?_cons_succ]
    rw [enumL_get r (k + 1) i d (by simpa using h)]
    congr 4
    omega
theorem jw_enum {K : PySem.W.Frag} {al : List Addr} {F H : Hp} {a : Addr} {vs : List V} {items : List Dv} (hq : SqL K F a vs) (r : Rps K al F vs items) : JW K (Ite K a) al F H (enumL 0 items) where
  go := fun i al' F' H' h' e s hi => by
    rw [enumL_len] at hi
    have q : SqL K H' a vs := SqL.mono s.sub (SqL.mono e.fz hq)
    have hl : i < vs.length := by rw [r.length]; exact hi
    exact ⟨vs, vs[i], q, List.getElem?_eq_getElem hl⟩
  stop := fun al' F' H' h' e s => ⟨vs, SqL.mono s.sub (SqL.mono e.fz hq), by rw [r.length, enumL_len]; exact Nat.le_refl _⟩
  yld := fun i al' F' H' h' x H2 e s hi y => by
    obtain ⟨T, z, rfl, hT, rfl, y⟩ := y
    have q := y vs (SqL.mono s.sub (SqL.mono e.fz hq))
    obtain ⟨d, hd, rd⟩ := r.getV q
    refine ⟨upd F' T (.tup [.int (i : Nat), z]), .new s hT, s.new hT, _, enumL_get items 0 i d hd, ?_⟩
    refine .tup (.inl (.inl upd_same)) (.cons ?_ (.cons ((rd.ext e).ext (.new s hT)) .nil))
    rw [Int.zero_add]
    exact .int _
theorem zipL_len : ∀ (xs ys : List Dv), (zipL xs ys).length = min xs.length ys.length
  | [], _ => by simp [zipL]
  | _ :: _, [] => by simp [zipL]
  | x :: r, y :: q => by simp [zipL, zipL_len r q]
theorem zipL_get : ∀ (xs ys : List Dv) (i : Nat) (d e : Dv), xs[i]? = some d → ys[i]? = some e → (zipL xs ys)[i]? = some (.tup [d, e])
  | [], _, _, _, _, h, _ => by simp at h
  | _ :: _, [], _, _, _, _, h => by simp at h
  | x :: r, y :: q, 0, d, e, h, h' => by simp at h h'; subst h; subst h'; simp [zipL]
  | x :: r, y :: q, i + 1, d, e, h, h' => by
    simp only [zipL, List.getElem?_cons_succ]
    exact zipL_get r q i d e (by simpa using h) (by simpa using h')
theorem jw_zip {K : PySem.W.Frag} {al : List Addr} {F H : Hp} {a b : Addr} {vs ws : List V} {xs ys : List Dv} (hq : SqL K F a vs) (hp : SqL K F b ws) (r : Rps K al F vs xs) (r2 : Rps K al F ws ys) : JW K (Itz K a b) al F H (zipL xs ys) where
  go := fun i al' F' H' h' e s hi => by
    rw [zipL_len] at hi
    have h1 : i < vs.length := by rw [r.length]; omega
    have h2 : i < ws.length := by rw [r2.length]; omega
    exact ⟨vs, ws, vs[i], ws[i], SqL.mono s.sub (SqL.mono e.fz hq), SqL.mono s.sub (SqL.mono e.fz hp), List.getElem?_eq_getElem h1, List.getElem?_eq_getElem h2⟩
  stop := fun al' F' H' h' e s => ⟨vs, ws, SqL.mono s.sub (SqL.mono e.fz hq), SqL.mono s.sub (SqL.mono e.fz hp), by rw [r.length, r2.length, zipL_len]; omega⟩
  yld := fun i al' F' H' h' x H2 e s hi y => by
    obtain ⟨T, z, z2, rfl, hT, rfl, y1, y2⟩ := y
    obtain ⟨d, hd, rd⟩ := r.getV (y1 vs (SqL.mono s.sub (SqL.mono e.fz hq)))
    obtain ⟨d2, hd2, rd2⟩ := r2.getV (y2 ws (SqL.mono s.sub (SqL.mono e.fz hp)))
    exact ⟨upd F' T (.tup [z, z2]), .new s hT, s.new hT, _, zipL_get xs ys i d d2 hd hd2, .tup (.inl (.inl upd_same)) (.cons ((rd.ext e).ext (.new s hT)) (.cons ((rd2.ext e).ext (.new s hT)) .nil))⟩
theorem jw_zipT {K : PySem.W.Frag} {al : List Addr} {F H : Hp} {a b : Addr} {vs ws : List V} {xs ys : List Dv} (hq : SqT K F a vs) (hp : SqT K F b ws) (r : Rps K al F vs xs) (r2 : Rps K al F ws ys) : JW K (RZ.ItzT K a b) al F H (zipL xs ys) where
  go := fun i al' F' H' h' e s hi => by
    rw [zipL_len] at hi
    have h1 : i < vs.length := by rw [r.length]; omega
    have h2 : i < ws.length := by rw [r2.length]; omega
    exact ⟨vs, ws, vs[i], ws[i], SqT.mono s.sub (SqT.mono e.fz hq), SqT.mono s.sub (SqT.mono e.fz hp), List.getElem?_eq_getElem h1, List.getElem?_eq_getElem h2⟩
  stop := fun al' F' H' h' e s => ⟨vs, ws, SqT.mono s.sub (SqT.mono e.fz hq), SqT.mono s.sub (SqT.mono e.fz hp), by rw [r.length, r2.length, zipL_len]; omega⟩
  yld := fun i al' F' H' h' x H2 e s hi y => by
    obtain ⟨T, z, z2, rfl, hT, rfl, y1, y2⟩ := y
    obtain ⟨d, hd, rd⟩ := r.getV (y1 vs (SqT.mono s.sub (SqT.mono e.fz hq)))
    obtain ⟨d2, hd2, rd2⟩ := r2.getV (y2 ws (SqT.mono s.sub (SqT.mono e.fz hp)))
    exact ⟨upd F' T (.tup [z, z2]), .new s hT, s.new hT, _, zipL_get xs ys i d d2 hd hd2, .tup (.inl (.inl upd_same)) (.cons ((rd.ext e).ext (.new s hT)) (.cons ((rd2.ext e).ext (.new s hT)) .nil))⟩
end
end Dn

set_option Elab.async false
set_option linter.all false
set_option maxRecDepth 100000
set_option maxHeartbeats 1000000
/-! soundness: for's sources, targets, comprehensions -/
namespace Dn
open PySem PySem.Spec PyProof.Rows L2

section
variable {I : Inf} {N : List Str} {sc : Scope} {cl : Nat → List Dv → Hc → Res Dv} {gl : List Dv} {X : Cx} {W : WX}
abbrev RI (cl : Nat → List Dv → Hc → Res Dv) (gl : List Dv) (X : Cx) (W : WX) (it : MIt) : TI := tI X.K X.mg cl gl W it

/-- what seqD walks -/
theorem seqD_cases {K : PySem.W.Frag} {al : List Addr} {F H : Hp} {h h' : Hc} {v : V} {d : Dv} {items : List Dv} (st : StR K al F H h) (r : Rp K al F v d) (e : seqD d h = .ok items h') : h' = h ∧
    ((∃ l, d = .str l ∧ v = .str (mkS l) ∧ StrOk l ∧ items = l.map fun c => .str [c]) ∨ (∃ a vs, v = .ref a ∧ SqT K F a vs ∧ Rps K al F vs items ∧ d = .tup items) ∨ (∃ a vs, v = .ref a ∧ SqL K F a vs ∧ Rps K al F vs items ∧ (∀ l, d ≠ .str l) ∧ ∀ xs, d ≠ .tup xs)) := by
  have lists : ∀ {d : Dv}, Rp K al F v d → (∀ l, d ≠ .str l) → (∀ xs, d ≠ .tup xs) → (match lstStill h d with
      | some xs => Res.ok xs h
      | none => .bad) = .ok items h' → h' = h ∧ ∃ a vs, v = .ref a ∧ SqL K F a vs ∧ Rps K al F vs items ∧ (∀ l, d ≠ .str l) ∧ ∀ xs, d ≠ .tup xs := fun {d} r n1 n2 e => by
    cases q : lstStill h d with
    | none => rw [q] at e; cases e
    | some xs =>
      rw [q] at e
      cases e
      obtain ⟨a, vs, rfl, ha, ra⟩ := st.seqStill r q
      exact ⟨rfl, a, vs, rfl, ha, ra, n1, n2⟩
  cases r with
  | str l hs => cases e; exact ⟨rfl, .inl ⟨l, rfl, rfl, hs, rfl⟩⟩
  | tup h1 h2 => cases e; exact ⟨rfl, .inr (.inl ⟨_, _, rfl, h1, h2, rfl⟩)⟩
  | lst h1 h2 => obtain ⟨e1, e2⟩ := lists (.lst h1 h2) (fun _ z => by cases z) (fun _ z => by cases z) e; exact ⟨e1, .inr (.inr e2)⟩
  | loc h1 => obtain ⟨e1, e2⟩ := lists (.loc h1) (fun _ z => by cases z) (fun _ z => by cases z) e; exact ⟨e1, .inr (.inr e2)⟩
  | _ => cases e
/-- which kind of thing is walked, by the value's datum -/
inductive SK where
  | str | tup | lst
def skOf : Dv → SK
  | .str _ => .str
  | .tup _ => .tup
  | _ => .lst
theorem s_seq {a : ME} {tg e : Expr} (ha : PE X e (RE cl gl X W a)) : PI X tg e (RI cl gl X W (.seq a)) := by
  refine PI.byC ?_
  rintro sg H R ⟨al, F, h0, s, st, en, ok⟩
  rw [evI] at ok
  have use : ∀ {t' : TI} (Q : VK), PI X tg e t' → (RE cl gl X W a sg H Q → t' sg H R) → (∀ d h1, ev cl gl a s h0 = .ok d h1 → ∀ al1 F1 H1 v, Ex al F H al1 F1 H1 → StR X.K al1 F1 H1 h1 → Rp X.K al1 F1 v d → okR X.K (ipost X.K R) (xpE X.K X.mg W sg) al1 F1 H1 (seqD d h1) → Q v H1) → ∃ t', PI X tg e t' ∧ t' sg H R := by
    intro t' Q hp hq hv
    refine ⟨t', hp, hq ⟨al, F, h0, s, st, en, ?_⟩⟩
    exact ok.bindE.imp fun al1 F1 H1 h1 d e1 s1 o1 v r1 => hv d h1 o1.1 al1 F1 H1 v e1 s1 r1 o1.2
  have seqok : ∀ {d : Dv} {h1 : Hc} {al1 F1 H1}, okR X.K (ipost X.K R) (xpE X.K X.mg W sg) al1 F1 H1 (seqD d h1) → ∃ items h2, seqD d h1 = .ok items h2 := fun {d h1 al1 F1 H1} o => by
    cases q : seqD d h1 with
    | ok items h2 => exact ⟨items, h2, rfl⟩
    | exc e h2 => unfold seqD at q; (repeat' split at q) <;> cases q
    | bad => rw [q] at o; exact False.elim o
  cases q : ev cl gl a s h0 with
  | ok d h1 =>
    cases hk : skOf d with
    | str =>
      refine use _ (pi_str ha) (fun z => z) fun d' h1' q' al1 F1 H1 v e1 s1 r1 o1 => ?_
      rw [q] at q'; cases q'
      obtain ⟨items, h2, hs⟩ := seqok o1
      obtain ⟨rfl, c⟩ := seqD_cases s1 r1 hs
      rcases c with ⟨l, rfl, rfl, hl, rfl⟩ | ⟨_, _, _, _, _, rfl⟩ | ⟨_, _, _, _, _, n1, n2⟩
      · rw [hs] at o1
        exact ⟨mkS l, rfl, o1.now s1 _ (jw_str hl)⟩
      · cases hk
      · cases d <;> first | exact absurd rfl (n1 _) | cases hk
    | tup =>
      refine use _ (pi_tup ha) (fun z => z) fun d' h1' q' al1 F1 H1 v e1 s1 r1 o1 => ?_
      rw [q] at q'; cases q'
      obtain ⟨items, h2, hs⟩ := seqok o1
      obtain ⟨rfl, c⟩ := seqD_cases s1 r1 hs
      rcases c with ⟨l, rfl, rfl, hl, rfl⟩ | ⟨a', vs, rfl, hq, rq, rfl⟩ | ⟨_, _, _, _, _, n1, n2⟩
      · cases hk
      · rw [hs] at o1
        exact ⟨a', rfl, ⟨vs, SqT.mono s1.sub hq⟩, o1.now s1 _ (jw_tup hq rq)⟩
      · cases d <;> first | exact absurd rfl (n2 _) | cases hk
    | lst =>
      refine use _ (pi_list ha) (fun z => z) fun d' h1' q' al1 F1 H1 v e1 s1 r1 o1 => ?_
      rw [q] at q'; cases q'
      obtain ⟨items, h2, hs⟩ := seqok o1
      obtain ⟨rfl, c⟩ := seqD_cases s1 r1 hs
      rcases c with ⟨l, rfl, rfl, hl, rfl⟩ | ⟨_, _, _, _, _, rfl⟩ | ⟨a', vs, rfl, hq, rq, n1, n2⟩
      · cases hk
      · cases hk
      · rw [hs] at o1
        exact ⟨a', rfl, ⟨vs, SqL.mono s1.sub hq⟩, o1.now s1 _ (jw_list hq rq)⟩
  | exc x h1 => exact use (fun _ _ => False) (pi_list ha) (fun z => by
      obtain ⟨al, F, h0, s, st, en, z⟩ := z
      exact ⟨al, F, h0, s, st, en, z.imp fun _ _ _ _ _ _ _ z v r => (z v r).elim⟩) fun d' h1' q' => by rw [q] at q'; cases q'
  | bad => rw [q] at ok; exact False.elim ok
theorem star1 {m : ME} {e : Expr} (h : chkE I N sc m e = true) (env : Env) : starEach [e] env = [(false, eval e env)] := by
  rw [star_ok h]
  rfl
theorem s_range1 (G : Gd I N sc cl gl X W) {a : ME} {tg e : Expr} {p pos : Pos} (hg : glB sc "range" = true) (hk : chkE I N sc a e = true) (ha : PE X e (RE cl gl X W a)) : PI X tg (.Call (.Name "range" p) [e] [] pos) (RI cl gl X W (.range1 a)) := by
  have gl' : Gl X "range" := by show X.env.scope.names.lookup _ = _; rw [G.sc]; exact glB_ok hg
  refine PI.of (pi_range1 gl' (G.free _ (by simp [freeNames])) (pa_cons ha pa_nil (star_ok hk [] X.env)) (star1 hk X.env)) ?_
  rintro sg H R ⟨al, F, h0, s, st, en, ok⟩
  rw [evI] at ok
  refine tE.one st en ok fun al1 F1 H1 h1 v d e1 s1 en1 r1 o1 => ?_
  cases r1 with
  | int j =>
    have o2 : okR X.K (ipost X.K R) (xpE X.K X.mg W sg) al1 F1 H1 (if -(2 ^ 62) ≤ (0 : Int) ∧ (0 : Int) < 2 ^ 62 ∧ -(2 ^ 62) ≤ j ∧ j < 2 ^ 62 then .ok (rangeL 0 (j - 0).toNat) h1 else .bad) := o1
    by_cases z : -(2 ^ 62) ≤ (0 : Int) ∧ (0 : Int) < 2 ^ 62 ∧ -(2 ^ 62) ≤ j ∧ j < 2 ^ 62
    · rw [if_pos z, Int.sub_zero] at o2
      exact ⟨j, rfl, z.2.2.1, z.2.2.2, o2.now s1 _ jw_range⟩
    · rw [if_neg z] at o2; exact False.elim o2
  | _ => exact False.elim o1
theorem s_range2 (G : Gd I N sc cl gl X W) {a b : ME} {tg e e2 : Expr} {p pos : Pos} (hg : glB sc "range" = true) (hk : chkE I N sc a e = true) (hk2 : chkE I N sc b e2 = true) (ha : PE X e (RE cl gl X W a)) (hb : PE X e2 (RE cl gl X W b)) :
    PI X tg (.Call (.Name "range" p) [e, e2] [] pos) (RI cl gl X W (.range2 a b)) := by
  have gl' : Gl X "range" := by show X.env.scope.names.lookup _ = _; rw [G.sc]; exact glB_ok hg
  refine PI.of (pi_range2 gl' (G.free _ (by simp [freeNames])) (pa_cons ha (pa_cons hb pa_nil (star_ok hk2 [] X.env)) (star_ok hk [e2] X.env)) (by rw [star_ok hk, star1 hk2]) (star1 hk2 X.env)) ?_
  rintro sg H R ⟨al, F, h0, s, st, en, ok⟩
  rw [evI] at ok
  refine tE.one st en ok fun al1 F1 H1 h1 v d e1 s1 en1 r1 o1 => tE.one s1 en1 o1 fun al2 F2 H2 h2 w e e2 s2 en2 r2 o2 => ?_
  cases r1 with
  | int i =>
    cases r2 with
    | int j =>
      have o3 : okR X.K (ipost X.K R) (xpE X.K X.mg W sg) al2 F2 H2 (if -(2 ^ 62) ≤ i ∧ i < 2 ^ 62 ∧ -(2 ^ 62) ≤ j ∧ j < 2 ^ 62 then .ok (rangeL i (j - i).toNat) h2 else .bad) := o2
      by_cases z : -(2 ^ 62) ≤ i ∧ i < 2 ^ 62 ∧ -(2 ^ 62) ≤ j ∧ j < 2 ^ 62
      · rw [if_pos z] at o3
        exact ⟨i, j, rfl, z, o3.now s2 _ jw_range⟩
      · rw [if_neg z] at o3; exact False.elim o3
    | _ => exact False.elim o2
  | _ => cases r2 <;> exact False.elim o2
theorem chkT {t : Expr} (h : isTupT t = true) : ∃ elts k p, t = .Tuple elts k p := by
  cases t <;> first | exact ⟨_, _, _, rfl⟩ | cases h
/-! enumerate over a text or a list -/
def ItS (x : Str) : It :=
  ⟨fun i _ => i < x.cps.size, fun i H v H' => ∃ T c, v = V.ref T ∧ H T = none ∧ H' = upd H T (.tup [.int (i : Nat), .str ⟨#[c]⟩]) ∧ x.cps[i]? = some c, fun i _ => i = x.cps.size⟩
theorem turnS {P : Program} {w : World} {K : PySem.W.Frag} {elts : List Expr} {kk : Nat} {tp : Pos} (x : Str) (t : Tok) (n0 m0 : Addr) (hnm : n0 ≠ m0) :
    Turn P w K (.Tuple elts kk tp) (ItS x) [n0, m0] n0 (fun i h => (∃ was, IsEnum h n0 m0 ((i : Nat) : Int) was) ∧ h.IsStrIter m0 (strIterType x) x t i) where
  mem := by simp
  obj := fun i h st b hb => by
    obtain ⟨⟨was, q1⟩, ⟨o, q2, q3, q4⟩⟩ := st
    rcases (show b = n0 ∨ b = m0 by simpa using hb) with z | z
    · subst z; exact ⟨_, q1, fun v q => nomatch q⟩
    · subst z; exact ⟨o, q2, fun v q => by rw [q4] at q; cases q⟩
  keep := fun i h h' st k => by
    obtain ⟨⟨was, q1⟩, ⟨o, q2, q3, q4⟩⟩ := st
    exact ⟨⟨was, k n0 (by simp) _ q1⟩, ⟨o, k m0 (by simp) _ q2, q3, q4⟩⟩
  item := by
    intro X hP hw hK hc i pins s sg H E I hf st hg
    subst hP hw hK
    obtain ⟨⟨was, q1⟩, q2⟩ := st
    have l1 : n0 < s.heap.objs.size := Heap.lt_size q1
    have l2 : m0 < s.heap.objs.size := by obtain ⟨_, q, _⟩ := q2; exact Heap.lt_size q
    have D := Draws.text (prog := X.prog) (w := X.w) (A := X.A.in1) (I.ok.hd hc) m0 x t
    refine wpAny_pyNext_enum_itemD D q1 q2 hg hnm (by simpa using hnm) fun v h' tk hv ho hst hT hsz hk => ?_
    obtain ⟨c, u, hxc, rfl⟩ := hv
    refine ⟨_, rfl, wpAny_letOwnedTupleGo_enum (s := { s with heap := h', toks := tk + 1 }) ho fun h2 he2 sb => ?_⟩
    have gT : h2.get? s.heap.objs.size = some { cls := .type "tuple", data := .seq #[.int i tk, .str ⟨#[c]⟩ u] } := (sb.2 _ (Nat.ne_of_gt l1)).trans hT
    have newOk : ObjOk X.prog X.w (upd H s.heap.objs.size (.tup [.int (i : Nat), .str ⟨#[c]⟩])) h2 s.heap.objs.size (.tup [.int (i : Nat), .str ⟨#[c]⟩]) :=
      ⟨by show 2 ≤ sizeLine; decide, [.int i tk, .str ⟨#[c]⟩ u], .cons ⟨_, rfl⟩ (.cons ⟨_, rfl⟩ .nil), ⟨_, gT, rfl, _, rfl⟩⟩
    have I2 : L2.Inv X pins sg (upd H s.heap.objs.size (.tup [.int (i : Nat), .str ⟨#[c]⟩])) { s with heap := h2, toks := tk + 1 } :=
      I.turnedNew (ch := [n0, m0]) (fun b ob hb q => (sb.2 b (fun z => hb (by simp [z]))).trans (hk b ob (fun z => hb (by simp [z])) (fun z => hb (by simp [z])) q)) hf (Nat.le_refl _) newOk
    refine ⟨.ref s.heap.objs.size, _, I2, rfl, ⟨_, c, rfl, I.hok.fresh (Nat.le_refl _), rfl, hxc⟩, ⟨⟨.str ⟨#[c]⟩ u, ?_⟩, D.frame _ _ _ hst fun b hb o q => ?_⟩, fun b hb => ?_⟩
    · have e1 : ((i + 1 : Nat) : Int) = (i : Int) + 1 := by omega
      rw [e1]; exact he2
    · rcases List.mem_singleton.mp hb with rfl
      exact (sb.2 _ (Ne.symm hnm)).trans q
    · have hb' : b < s.heap.objs.size := by
        rcases (show b = n0 ∨ b = m0 by simpa using hb) with z | z
        · rw [z]; exact l1
        · rw [z]; exact l2
      rw [upd_ne (Nat.ne_of_lt hb')]
      exact (hf b hb).1
  done := by
    intro X hP hw hK hc i pins s sg H E I hf st hg
    subst hP hw hK
    obtain ⟨⟨was, q1⟩, q2⟩ := st
    obtain ⟨f0, f1, f2, f3, f4, f5⟩ := hf m0 (by simp)
    have D := Draws.text (prog := X.prog) (w := X.w) (A := X.A.in1) (I.ok.hd hc) m0 x t
    have hi : i = x.cps.size := hg
    subst hi
    exact wpAny_pyNext_enum_endD D q1 q2 fun h' eb => ⟨rfl, I.turned (t' := s.toks) (fun b o hb q => eb b o hb q) f0 f1 f3 f4 f5⟩
  self := fun A i s Q E st h => by
    obtain ⟨⟨_, q1⟩, _⟩ := st
    exact wpAny_pyIter_enum q1 h
def iEnumA (K : PySem.W.Frag) (ta : TA) : TI := fun sg H R => ta sg H fun vs H1 => (∃ a xs, vs = [.ref a] ∧ SqL K H1 a xs ∧ R (Ite K a) H1) ∨ ∃ x, vs = [.str x] ∧ R (ItS x) H1
theorem pi_enumA {e : Expr} {ta : TA} {p pos tp : Pos} {elts : List Expr} {kk : Nat} (hg : Gl X "enumerate") (hm : X.mg "enumerate" = none) (ha : PA X [e] ta) (hs : starEach [e] X.env = [(false, eval e X.env)]) :
    PI X (.Tuple elts kk tp) (.Call (.Name "enumerate" p) [e] [] pos) (iEnumA X.K ta) := by
  refine ⟨fun pins s sg H R I h => ?_⟩
  refine Call_ (ld_blt I hg hm boot_enumerate (PyProof.Rows.callWith_type1 (thn (ha.run pos pins s sg H _ I h) fun us s1 ⟨vs, H1, I1, r1, q1⟩ => ?_) hs rfl))
  have two : ∀ b, b = s1.heap.objs.size + 1 ∨ b = s1.heap.objs.size → s1.heap.objs.size ≤ b := fun b z => by
    rcases z with z | z
    · subst z; exact Nat.le_add_right _ _
    · subst z; exact Nat.le_refl _
  rcases q1 with ⟨a, xs, rfl, hq, q⟩ | ⟨x, rfl, q⟩
  · cases r1 with
    | cons r rr =>
      cases rr
      cases r
      obtain ⟨its, rv, p', hz⟩ := I1.list hq
      refine call_enumerate_list p'.isList fun h' he hit hsz hk => wpAny_pyIter_enum he ?_
      refine ⟨s1.heap.objs.size + 1, [s1.heap.objs.size + 1, s1.heap.objs.size], _, _, H1, rfl, I1.kept (t' := s1.toks) hk, turn_enum a (s1.heap.objs.size + 1) s1.heap.objs.size, ⟨⟨.none, he⟩, hit, Nat.succ_ne_self _⟩, fun b hb => ?_, q⟩
      have hle := two b (by simpa using hb)
      exact I1.fpOk hle (I1.hok.fresh hle)
  · cases r1 with
    | cons r rr =>
      cases rr
      obtain ⟨t, rfl⟩ := r
      refine call_enumerate_str fun h' he hit hsz hk => wpAny_pyIter_enum he ?_
      refine ⟨s1.heap.objs.size + 1, [s1.heap.objs.size + 1, s1.heap.objs.size], _, _, H1, rfl, I1.kept (t' := s1.toks) hk, turnS x t (s1.heap.objs.size + 1) s1.heap.objs.size (Nat.succ_ne_self _), ⟨⟨.none, he⟩, hit⟩, fun b hb => ?_, q⟩
      have hle := two b (by simpa using hb)
      exact I1.fpOk hle (I1.hok.fresh hle)
theorem jw_enumS {K : PySem.W.Frag} {al : List Addr} {F H : Hp} {l : List Nat} (hl : StrOk l) : JW K (ItS (mkS l)) al F H (enumL 0 (l.map fun c => .str [c])) where
  go := fun i al' F' H' h' e s hi => by
    rw [enumL_len, List.length_map] at hi
    exact hi
  stop := fun al' F' H' h' e s => by
    show (enumL 0 (l.map fun c => Dv.str [c])).length = l.length
    rw [enumL_len, List.length_map]
  yld := fun i al' F' H' h' x H2 e s hi y => by
    obtain ⟨T, c, rfl, hT, rfl, y⟩ := y
    have hc : l[i]? = some c := by simpa [mkS] using y
    refine ⟨upd F' T (.tup [.int (i : Nat), .str ⟨#[c]⟩]), .new s hT, s.new hT, _, enumL_get _ 0 i (.str [c]) (by rw [List.getElem?_map, hc]; rfl), ?_⟩
    refine .tup (.inl (.inl upd_same)) (.cons ?_ (.cons (.str [c] (hl.one (List.mem_of_getElem? hc))) .nil))
    rw [Int.zero_add]
    exact .int _
theorem s_enum (G : Gd I N sc cl gl X W) {a : ME} {tg e : Expr} {p pos : Pos} (ht : isTupT tg = true) (hg : glB sc "enumerate" = true) (hk : chkE I N sc a e = true) (ha : PE X e (RE cl gl X W a)) : PI X tg (.Call (.Name "enumerate" p) [e] [] pos) (RI cl gl X W (.enum a)) := by
  obtain ⟨elts, k, tp, rfl⟩ := chkT ht
  have gl' : Gl X "enumerate" := by show X.env.scope.names.lookup _ = _; rw [G.sc]; exact glB_ok hg
  refine PI.of (pi_enumA gl' (G.free _ (by simp [freeNames])) (pa_cons ha pa_nil (star_ok hk [] X.env)) (star1 hk X.env)) ?_
  rintro sg H R ⟨al, F, h0, s, st, en, ok⟩
  rw [evI] at ok
  refine tE.one st en ok fun al1 F1 H1 h1 v d e1 s1 en1 r1 o1 => ?_
  have lists : ∀ xs, lstStill h1 d = some xs → okR X.K (ipost X.K R) (xpE X.K X.mg W sg) al1 F1 H1 (.ok (enumL 0 xs) h1) → (∃ a xs, [v] = [V.ref a] ∧ SqL X.K H1 a xs ∧ R (Ite X.K a) H1) ∨ ∃ x, [v] = [V.str x] ∧ R (ItS x) H1 := fun xs q o => by
    obtain ⟨a', vs, rfl, ha', ra⟩ := s1.seqStill r1 q
    exact .inl ⟨a', vs, rfl, SqL.mono s1.sub ha', o.now s1 _ (jw_enum ha' ra)⟩
  cases q : enumD d h1 with
  | none => rw [q] at o1; exact False.elim o1
  | some xs =>
    rw [q] at o1
    cases r1 with
    | str l hl =>
      cases q
      exact .inr ⟨_, rfl, o1.now s1 _ (jw_enumS hl)⟩
    | loc h2 => exact lists xs q o1
    | lst h2 h3 => exact lists xs q o1
    | _ => cases q
theorem s_zip (G : Gd I N sc cl gl X W) {a b : ME} {tg e e2 : Expr} {p pos : Pos} (ht : isTupT tg = true) (hg : glB sc "zip" = true) (hk : chkE I N sc a e = true) (hk2 : chkE I N sc b e2 = true) (ha : PE X e (RE cl gl X W a)) (hb : PE X e2 (RE cl gl X W b)) :
    PI X tg (.Call (.Name "zip" p) [e, e2] [] pos) (RI cl gl X W (.zip a b)) := by
  obtain ⟨elts, k, tp, rfl⟩ := chkT ht
  have gl' : Gl X "zip" := by show X.env.scope.names.lookup _ = _; rw [G.sc]; exact glB_ok hg
  refine PI.of (RZ.pi_zipA gl' (G.free _ (by simp [freeNames])) (pa_cons ha (pa_cons hb pa_nil (star_ok hk2 [] X.env)) (star_ok hk [e2] X.env)) (star_ok hk [e2] X.env) (by rw [star1 hk2]; rfl)) ?_
  rintro sg H R ⟨al, F, h0, s, st, en, ok⟩
  rw [evI] at ok
  refine tE.one st en ok fun al1 F1 H1 h1 v d e1 s1 en1 r1 o1 => tE.one s1 en1 o1 fun al2 F2 H2 h2 w e e2 s2 en2 r2 o2 => ?_
  have r1' := r1.ext e2
  have lists : okR X.K (ipost X.K R) (xpE X.K X.mg W sg) al2 F2 H2 (match lstStill h2 d, lstStill h2 e with
      | some xs, some ys => .ok (zipL xs ys) h2
      | _, _ => .bad) → ∃ a b xs ys, [v, w] = [.ref a, .ref b] ∧ ((SqL X.K H2 a xs ∧ SqL X.K H2 b ys ∧ R (Itz X.K a b) H2) ∨ (SqT X.K H2 a xs ∧ SqT X.K H2 b ys ∧ R (RZ.ItzT X.K a b) H2)) := fun o => by
    cases q : lstStill h2 d with
    | none => rw [q] at o; exact False.elim o
    | some xs =>
      cases q2 : lstStill h2 e with
      | none => rw [q, q2] at o; exact False.elim o
      | some ys =>
        rw [q, q2] at o
        obtain ⟨a', vs, rfl, ha', ra⟩ := s2.seqStill r1' q
        obtain ⟨b', ws, rfl, hb', rb⟩ := s2.seqStill r2 q2
        exact ⟨a', b', vs, ws, rfl, .inl ⟨SqL.mono s2.sub ha', SqL.mono s2.sub hb', o.now s2 _ (jw_zip ha' hb' ra rb)⟩⟩
  cases r1' with
  | tup h3 h4 =>
    cases r2 with
    | tup h5 h6 => exact ⟨_, _, _, _, rfl, .inr ⟨SqT.mono s2.sub h3, SqT.mono s2.sub h5, o2.now s2 _ (jw_zipT h3 h5 h4 h6)⟩⟩
    | _ => exact False.elim o2
  | lst h3 h4 => exact lists (by cases r2 <;> exact o2)
  | loc h3 => exact lists (by cases r2 <;> exact o2)
  | _ => cases r2 <;> exact False.elim o2

/-! ### targets -/
def setsV (sg : L2.St) (js : List Nat) (xs : List V) : L2.St := (js.zip xs).foldl (fun s p => s.set p.1 (some p.2)) sg
def setsD (s : Env1) (js : List Nat) (xs : List Dv) : Env1 := (js.zip xs).foldl (fun s p => s.set p.1 (some p.2)) s
/-- a target's reading -/
def gsT : List Nat → TGs
  | [] => gNil
  | i :: js => gCons (gName i) (gsT js)
def gT (K : PySem.W.Frag) : Tg → TG
  | .name i => gName i
  | .tup js => fun v σ H Q => gTup K js.length (gsT js) v σ H Q ∨ gUnl K js.length (gsT js) v σ H Q
theorem gsT_ok : ∀ {js : List Nat} {xs : List V} {sg : L2.St} {H : Hp} {Q : L2.St → Hp → Prop}, xs.length = js.length → Q (setsV sg js xs) H → gsT js xs sg H Q
  | [], [], _, _, _, _, q => ⟨rfl, q⟩
  | [], _ :: _, _, _, _, h, _ => by cases h
  | _ :: _, [], _, _, _, h, _ => by cases h
  | i :: js, x :: xs, sg, H, Q, h, q => ⟨x, xs, rfl, gsT_ok (Nat.succ.inj h) q⟩
theorem sets_R {K : PySem.W.Frag} {al : List Addr} {F : Hp} : ∀ {js : List Nat} {vs : List V} {ds : List Dv} {sg : L2.St} {s : Env1}, Rps K al F vs ds → EnvR K al F sg s → EnvR K al F (setsV sg js vs) (setsD s js ds)
  | [], _, _, _, _, _, en => by simpa [setsV, setsD] using en
  | i :: js, _, _, _, _, .nil, en => by simpa [setsV, setsD] using en
  | i :: js, _, _, _, _, .cons r rs, en => sets_R (js := js) rs (en.set (i := i) r)
theorem wipe_set {sg : L2.St} {i : Nat} {o : Option V} : ∀ {vs : List Nat}, i ∈ vs → wipe (sg.set i o) vs = wipe sg vs
  | v :: vs, h => by
    unfold wipe
    by_cases e : i ∈ vs
    · rw [wipe_set e]
    · have e2 : i = v := by
        rcases List.mem_cons.mp h with z | z
        · exact z
        · exact absurd z e
      subst e2
      have : ∀ (vs : List Nat) (sg : L2.St), i ∉ vs → wipe (sg.set i o) vs = (wipe sg vs).set i o := by
        intro vs
        induction vs with
        | nil => intro sg _; rfl
        | cons w ws ih =>
          intro sg h
          unfold wipe
          rw [ih sg (fun z => h (List.mem_cons_of_mem _ z))]
          exact List.set_comm _ _ (fun z => h (by rw [z]; exact List.mem_cons_self))
      rw [this vs sg e, List.set_set]
theorem wipe_wipe (sg : L2.St) (vs : List Nat) : wipe (wipe sg vs) vs = wipe sg vs := by
  have : ∀ (us : List Nat) (sg : L2.St), (∀ u ∈ us, u ∈ vs) → wipe (wipe sg us) vs = wipe sg vs := by
    intro us
    induction us with
    | nil => intro sg _; rfl
    | cons u us ih =>
      intro sg h
      show wipe ((wipe sg us).set u none) vs = _
      rw [wipe_set (h u List.mem_cons_self), ih sg fun z hz => h z (List.mem_cons_of_mem _ hz)]
  exact this vs sg fun _ h => h
theorem wipe_sets {vs : List Nat} : ∀ {js : List Nat} {xs : List V} {sg : L2.St}, (∀ j ∈ js, j ∈ vs) → wipe (setsV sg js xs) vs = wipe sg vs
  | [], _, _, _ => by simp [setsV]
  | _ :: _, [], _, _ => by simp [setsV]
  | i :: js, x :: xs, sg, h => by
    show wipe (setsV (sg.set i (some x)) js xs) vs = _
    rw [wipe_sets fun j hj => h j (List.mem_cons_of_mem _ hj), wipe_set (h i List.mem_cons_self)]
/-- a target takes its value -/
theorem tg_ok {K : PySem.W.Frag} {al : List Addr} {F H : Hp} {h : Hc} {t : Tg} {v : V} {d : Dv} {sg : L2.St} {s s' : Env1} (st : StR K al F H h) (r : Rp K al F v d) (en : EnvR K al F sg s) (e : tgD t d s = some s') :
    ∃ sg', (∀ Q : L2.St → Hp → Prop, Q sg' H → gT K t v sg H Q) ∧ EnvR K al F sg' s' ∧ ∀ vs, tgIn t vs = true → wipe sg' vs = wipe sg vs := by
  cases t with
  | name i =>
    have e' : s' = s.set i (some d) := by cases d <;> (cases e; rfl)
    subst e'
    exact ⟨sg.set i (some v), fun Q q => q, en.set r, fun vs hv => wipe_set (by simpa [tgIn] using hv)⟩
  | tup js =>
    cases r with
    | tup h1 h2 =>
      rename_i a ws ds
      have e' : (if ds.length = js.length then some (setsD s js ds) else none) = some s' := e
      by_cases z : ds.length = js.length
      · rw [if_pos z] at e'
        cases e'
        have z' : ws.length = js.length := by rw [h2.length]; exact z
        refine ⟨setsV sg js ws, fun Q q => .inl ⟨a, ws, rfl, SqT.mono st.sub h1, z', gsT_ok z' q⟩, sets_R h2 en, fun vs hv => wipe_sets fun j hj => ?_⟩
        have := List.all_eq_true.mp (show js.all vs.contains = true from hv) j hj
        simpa using this
      · rw [if_neg z] at e'; cases e'
    | lst h1 h2 =>
      rename_i a ws ds
      have e' : (if ds.length = js.length then some (setsD s js ds) else none) = some s' := e
      by_cases z : ds.length = js.length
      · rw [if_pos z] at e'
        cases e'
        have z' : ws.length = js.length := by rw [h2.length]; exact z
        refine ⟨setsV sg js ws, fun Q q => .inr ⟨a, ws, rfl, .inl (.inl (st.sub _ _ h1)), z', gsT_ok z' q⟩, sets_R h2 en, fun vs hv => wipe_sets fun j hj => ?_⟩
        have := List.all_eq_true.mp (show js.all vs.contains = true from hv) j hj
        simpa using this
      · rw [if_neg z] at e'; cases e'
    | _ => cases e
/-- .. by the model -/
theorem pg_names {Y : Cx} (hN : Y.N.Nodup) (hc : Y.calm = true) {ow : Scope} (ok : ∀ x, locB ow x = true → Loc Y.env.scope x ∧ (Y.fn x = true ∨ Y.env.scope.names.lookup x = some .local)) : ∀ {js : List Nat} {es : List Expr}, tgB.tgsB ow Y.N js es = true → PGs Y es (gsT js) ∧ (assignEach es Y.env).length = js.length ∧ (assignEach es Y.env).findIdx? (·.1) = none
  | [], [], _ => ⟨pgs_nil, rfl, rfl⟩
  | [], _ :: _, h => by simp [tgB.tgsB] at h
  | _ :: _, [], h => by simp [tgB.tgsB] at h
  | i :: js, e :: es, h => by
    cases e with
    | Name x p =>
      simp only [tgB.tgsB, Bool.and_eq_true, decide_eq_true_eq] at h
      obtain ⟨⟨h1, h2⟩, h3⟩ := h
      obtain ⟨a1, a2⟩ := ok x h2
      obtain ⟨b1, b2, b3⟩ := pg_names hN hc ok h3
      refine ⟨pgs_cons (pg_name (i := i) hN h1 a1 a2) b1 rfl, congrArg Nat.succ b2, ?_⟩
      show List.findIdx? (·.1) ((false, assign (.Name x p) Y.env) :: assignEach es Y.env) = none
      rw [List.findIdx?_cons, b3]
      rfl
    | _ => simp [tgB.tgsB] at h
theorem pg_tg {Y : Cx} (hN : Y.N.Nodup) (hc : Y.calm = true) {ow : Scope} (ok : ∀ x, locB ow x = true → Loc Y.env.scope x ∧ (Y.fn x = true ∨ Y.env.scope.names.lookup x = some .local)) {t : Tg} {e : Expr} (h : tgB ow Y.N t e = true) : PG Y e (gT Y.K t) := by
  cases t with
  | name i =>
    cases e with
    | Name x p =>
      simp only [tgB, Bool.and_eq_true, decide_eq_true_eq] at h
      obtain ⟨a1, a2⟩ := ok x h.2
      exact pg_name (i := i) hN h.1 a1 a2
    | _ => simp [tgB] at h
  | tup js =>
    cases e with
    | Tuple es k p =>
      obtain ⟨b1, b2, b3⟩ := pg_names hN hc ok (show tgB.tgsB ow Y.N js es = true from h)
      refine ⟨fun pins s σ H v u Q I r hw => ?_⟩
      rcases hw with hw | hw
      · exact (pg_tup hc b1 b2 b3).run pins s σ H v u Q I r hw
      · exact (pg_unl hc b1 b2 b3).run pins s σ H v u Q I r hw
    | _ => simp [tgB] at h
end
end Dn

set_option Elab.async false
set_option linter.all false
set_option maxRecDepth 100000
set_option maxHeartbeats 1000000
/-! soundness: comprehensions; all expressions -/
namespace Dn
open PySem PySem.Spec PyProof.Rows L2

section
variable {I : Inf} {N : List Str} {sc : Scope} {cl : Nat → List Dv → Hc → Res Dv} {gl : List Dv} {X : Cx} {W : WX}
abbrev W0 : WX := fun _ _ _ _ => False
/-- the block of a comprehension -/
theorem Gd.blk (G : Gd I N sc cl gl X W) (s : Shared) (H : Hp) (scope : Scope) (C : Addr) (cells : List (Str × Addr)) (fp : List Addr) : Gd I N (relS scope sc) cl gl (X.blk s H scope (compEnvC scope cells C X.env) fp) W0 where
  sc := by
    rw [← G.sc]
    rfl
  n := G.n
  nd := G.nd
  calm := G.calm
  pass := PassesOwn.never
  takes := takes0
  units := G.units
  free := G.free
  fn := G.fn
  gls := G.gls
theorem compL_cons {f : Dv → Hc → Res (Option Dv)} {x : Dv} {xs : List Dv} {h h2 : Hc} {ys : List Dv} (e : compL f (x :: xs) h = .ok ys h2) : ∃ y h1 ys', f x h = .ok y h1 ∧ compL f xs h1 = .ok ys' h2 ∧ ys = (match y with | some y => y :: ys' | none => ys') := by
  unfold compL at e
  cases q : f x h with
  | ok y h1 =>
    rw [q] at e
    simp only [Res.calm_ok, Res.bind_ok] at e
    cases q2 : compL f xs h1 with
    | ok ys' h3 =>
      rw [q2] at e
      simp only [Res.bind_ok] at e
      cases e
      exact ⟨y, h1, ys', rfl, q2, rfl⟩
    | exc _ _ => rw [q2] at e; cases e
    | bad => rw [q2] at e; cases e
  | exc _ _ => rw [q] at e; cases e
  | bad => rw [q] at e; cases e
theorem compL_noexc {f : Dv → Hc → Res (Option Dv)} : ∀ {xs : List Dv} {h h2 : Hc} {e : Exn}, compL f xs h ≠ .exc e h2
  | [], _, _, _, q => by cases q
  | x :: xs, h, h2, e, q => by
    unfold compL at q
    cases q1 : f x h with
    | ok y h1 =>
      rw [q1] at q
      simp only [Res.calm_ok, Res.bind_ok] at q
      cases q2 : compL f xs h1 with
      | ok ys' h3 => rw [q2] at q; cases q
      | exc _ _ => exact compL_noexc q2
      | bad => rw [q2] at q; cases q
    | exc _ _ => rw [q1] at q; cases q
    | bad => rw [q1] at q; cases q
/-- what a comprehension does with one item -/
def compF (cl : Nat → List Dv → Hc → Res Dv) (gl : List Dv) (tg : Tg) (vs : List Nat) (cond : MO) (elt : ME) (s : Env1) : Dv → Hc → Res (Option Dv) := fun x h2 => match tgD tg x (wipeD s vs) with
  | some s1 => (evC cl gl cond s1 h2).bind fun b h3 => if b then (ev cl gl elt s1 h3).bind fun y h4 => .ok (some y) h4 else .ok none h3
  | none => .bad
theorem ev_comp (tg : Tg) (vs : List Nat) (it : MIt) (cond : MO) (elt : ME) (s : Env1) (h : Hc) : ev cl gl (.comp tg vs it cond elt) s h =
    (evI cl gl it s h).bind fun items h1 => (compL (compF cl gl tg vs cond elt s) items h1).bind fun ys h2 => if SZok ys.length then .ok (.lst ys) h2 else .bad := by
  rw [ev]
  rfl
theorem Ex.other {al : List Addr} {F H : Hp} {D : Addr} {o : HO} (h : H D = none) : Ex al F H al F (upd H D o) :=
  ⟨⟨[], by simp, by simp⟩, fun _ _ q => q, fun a u q _ => by rw [upd_ne (by rintro rfl; rw [h] at q; cases q)]; exact q, fun _ _ q => .inl q⟩
theorem Ex.put {al al1 : List Addr} {F F1 H H1 : Hp} {D : Addr} {o : HO} (e : Ex al F H al1 F1 H1) (h : H D = none) : Ex al F H al1 F1 (upd H1 D o) :=
  ⟨e.app, e.fz, fun a u q ha => by rw [upd_ne (by rintro rfl; rw [h] at q; cases q)]; exact e.keep a u q ha, e.org⟩
theorem Ex.fzNew {al al1 : List Addr} {F F1 H H1 : Hp} {D : Addr} {o : HO} (e : Ex al F H al1 F1 H1) (h : H D = none) (hF : F1 D = none) : Ex al F H al1 (upd F1 D o) H1 :=
  ⟨e.app, fun a u q => by
    have := e.fz a u q
    rw [upd_ne (by rintro rfl; rw [hF] at this; cases this)]; exact this, e.keep, fun a u q => by
    by_cases z : a = D
    · subst z; exact .inr (.inl h)
    · rw [upd_ne z] at q; exact e.org a u q⟩
theorem comp_read {K : PySem.W.Frag} {mg : Str → Option Value} {tg : Tg} {vs : List Nat} {it : MIt} {cond : MO} {elt : ME} (htg : tgIn tg vs = true) {sg : L2.St} {H : Hp} {Q : VK} (hq : tE K mg cl gl W (.comp tg vs it cond elt) sg H Q) :
    tLc (tI K mg cl gl W it) (gT K tg) (tC K mg cl gl W0 cond) (tE K mg cl gl W0 elt) vs sg H Q := by
  obtain ⟨al, F, h0, s, st, en, ok⟩ := hq
  rw [ev_comp] at ok
  refine ⟨al, F, h0, s, st, en, ok.bind.imp fun al1 F1 H1 h1 items e1 s1 o1 J jw D hD => ?_⟩
  have en1 := en.ext e1
  cases q : compL (compF cl gl tg vs cond elt s) items h1 with
  | exc e h2 => exact absurd q compL_noexc
  | bad => rw [q] at o1; exact False.elim o1
  | ok ys h2 =>
    rw [q] at o1
    simp only [Res.bind_ok] at o1
    by_cases z : SZok ys.length = true
    case neg => rw [if_neg z] at o1; exact False.elim o1
    rw [if_pos z] at o1
    have z' := SZok_iff.mp z
    -- the invariant
    refine ⟨fun i m H' => m = items.length - i ∧ i ≤ items.length ∧ ∃ al' F' h' acc ds ys', compL (compF cl gl tg vs cond elt s) (items.drop i) h' = .ok ys' h2 ∧ ys = ds ++ ys' ∧ StR K al' F' H' h' ∧ Ex al1 F1 H1 al' F' H' ∧ H' D = some (.lst acc) ∧ D ∉ al' ∧ F' D = none ∧ Rps K al' F' acc ds,
      ⟨items.length, rfl, Nat.zero_le _, al1, F1, h1, [], [], ys, q, rfl, ?_, .other hD, upd_same, ?_, ?_, .nil⟩, ?_⟩
    · have nD : D ∉ al1 := fun hm => by
        obtain ⟨o, ho⟩ := s1.track hm
        rw [hD] at ho; cases ho
      have fD : F1 D = none := by
        cases q2 : F1 D with
        | none => rfl
        | some o => rw [s1.sub _ _ q2] at hD; cases hD
      exact s1.other nD fD
    · intro hm
      obtain ⟨o, ho⟩ := s1.track hm
      rw [hD] at ho; cases ho
    · cases q2 : F1 D with
      | none => rfl
      | some o => rw [s1.sub _ _ q2] at hD; cases hD
    rintro i m H' ⟨rfl, hi, al', F', h', acc, ds, ys', qc, ey, st', ex', hD', nD, fD, racc⟩
    by_cases hlt : i < items.length
    · refine .inr ⟨jw.go i al' F' H' h' ex' st' hlt, fun H2 => ∃ al2 F2 h2' acc2 ds2 ys2, compL (compF cl gl tg vs cond elt s) (items.drop (i + 1)) h2' = .ok ys2 h2 ∧ ys = ds2 ++ ys2 ∧ StR K al2 F2 H2 h2' ∧ Ex al1 F1 H1 al2 F2 H2 ∧ H2 D = some (.lst acc2) ∧ D ∉ al2 ∧ F2 D = none ∧ Rps K al2 F2 acc2 ds2,
        fun H2 n2 => ⟨items.length - (i + 1), by omega, rfl, hlt, n2⟩, fun x H2 y => ?_⟩
      obtain ⟨F2, ex2, st2, d, hd, rd⟩ := jw.yld i al' F' H' h' x H2 ex' st' hlt y
      have ex12 := ex'.trans st' ex2
      have hD2 : H2 D = some (.lst acc) := ex2.keep D _ hD' nD
      have fD2 : F2 D = none := by
        cases q2 : F2 D with
        | none => rfl
        | some o =>
          rcases ex2.org D o q2 with w | w | w
          · rw [fD] at w; cases w
          · rw [hD'] at w; cases w
          · exact absurd w nD
      have edrop : items.drop i = d :: items.drop (i + 1) := by
        rw [List.drop_eq_getElem_cons hlt]
        congr 1
        rw [List.getElem?_eq_getElem hlt] at hd
        exact Option.some.inj hd
      rw [edrop] at qc
      obtain ⟨yo, h3, ys3, qf, qc3, eys⟩ := compL_cons qc
      unfold compF at qf
      cases qt : tgD tg d (wipeD s vs) with
      | none => rw [qt] at qf; cases qf
      | some s2 =>
        rw [qt] at qf
        dsimp only at qf
        have enw : EnvR K al' F2 (wipe sg vs) (wipeD s vs) := ((en1.ext ex').ext ex2).wipe vs
        obtain ⟨sg2, hg2, en2, hw2⟩ := tg_ok st2 rd enw qt
        refine hg2 _ ⟨?_, ?_⟩
        · rw [hw2 vs htg, wipe_wipe]
        -- the test
        cases qb : evC cl gl cond s2 h' with
        | exc e h4 => rw [qb] at qf; cases qf
        | bad => rw [qb] at qf; cases qf
        | ok b h4 =>
          rw [qb] at qf
          simp only [Res.bind_ok] at qf
          refine ⟨al', F2, h', s2, st2, en2, ?_⟩
          rw [qb]
          intro al4 F4 H4 ex4 st4
          have nD4 : D ∉ al4 := fun hm => by
            obtain ⟨r, er, hr⟩ := ex4.app
            rw [er] at hm
            rcases List.mem_append.mp hm with hm | hm
            · exact nD hm
            · rw [hr D hm] at hD2; cases hD2
          have hD4 : H4 D = some (.lst acc) := ex4.keep D _ hD2 nD
          have fD4 : F4 D = none := by
            cases q2 : F4 D with
            | none => rfl
            | some o =>
              rcases ex4.org D o q2 with w | w | w
              · rw [fD2] at w; cases w
              · rw [hD2] at w; cases w
              · exact absurd w nD
          have racc4 := (racc.ext ex2).ext ex4
          have ex14 := ex12.trans st2 ex4
          cases b with
          | false =>
            rw [if_neg Bool.false_ne_true] at qf
            cases qf
            simp only [bpost, Bool.false_eq_true, if_false]
            have eys' : ys' = ys3 := eys
            rw [eys'] at ey
            exact ⟨al4, F4, h3, acc, ds, ys3, qc3, ey, st4, ex14, hD4, nD4, fD4, racc4⟩
          | true =>
            rw [if_pos rfl] at qf
            simp only [bpost, if_true]
            cases qv : ev cl gl elt s2 h4 with
            | exc e h5 => rw [qv] at qf; cases qf
            | bad => rw [qv] at qf; cases qf
            | ok w h5 =>
              rw [qv] at qf
              simp only [Res.bind_ok] at qf
              cases qf
              refine ⟨al4, F4, h4, s2, st4, en2.ext ex4, ?_⟩
              rw [qv]
              intro al5 F5 H5 ex5 st5 yv ry
              have nD5 : D ∉ al5 := fun hm => by
                obtain ⟨r, er, hr⟩ := ex5.app
                rw [er] at hm
                rcases List.mem_append.mp hm with hm | hm
                · exact nD4 hm
                · rw [hr D hm] at hD4; cases hD4
              have hD5 : H5 D = some (.lst acc) := ex5.keep D _ hD4 nD4
              have fD5 : F5 D = none := by
                cases q2 : F5 D with
                | none => rfl
                | some o =>
                  rcases ex5.org D o q2 with w | w | w
                  · rw [fD4] at w; cases w
                  · rw [hD4] at w; cases w
                  · exact absurd w nD4
              have racc5 := racc4.ext ex5
              subst eys
              have hsz : acc.length < sizeLine := by
                rw [racc.length, SZ_eq]
                have := congrArg List.length ey
                simp only [List.length_append, List.length_cons] at this
                omega
              refine ⟨acc, hD5, hsz, al5, F5, h3, acc ++ [yv], ds ++ [w], ys3, qc3, by rw [ey, List.append_assoc]; rfl, st5.other nD5 fD5, (ex14.trans st4 ex5).put hD, upd_same, nD5, fD5, racc5.append (.cons ry .nil)⟩
    · have e : i = items.length := by omega
      subst e
      rw [List.drop_length] at qc
      cases qc
      rw [List.append_nil] at ey
      subst ey
      refine .inl ⟨jw.stop al' F' H' h2 ex' st', ?_⟩
      refine o1 al' (upd F' D (.lst acc)) H' (ex'.fzNew hD fD) (st'.fzOther nD fD hD') _ (.lst upd_same (racc.mono (fun _ _ w => w) fun a u w => ?_))
      rw [upd_ne (by rintro rfl; rw [fD] at w; cases w)]
      exact w
end
end Dn

set_option Elab.async false
set_option linter.all false
set_option maxRecDepth 100000
set_option maxHeartbeats 2000000
/-! soundness: all expressions -/
namespace Dn
open PySem PySem.Spec PyProof.Rows L2

section
variable {I : Inf} {N : List Str} {cl : Nat → List Dv → Hc → Res Dv} {gl : List Dv}
theorem own_ok {sc scope : Scope} {X : Cx} {W : WX} (G : Gd I N sc cl gl X W) (s : Shared) (H : Hp) (C : Addr) (cells : List (Str × Addr)) (fp : List Addr) (x : Str) (h : locB scope x = true) :
    Loc (X.blk s H scope (compEnvC scope cells C X.env) fp).env.scope x ∧ ((X.blk s H scope (compEnvC scope cells C X.env) fp).fn x = true ∨ (X.blk s H scope (compEnvC scope cells C X.env) fp).env.scope.names.lookup x = some .local) := by
  have es : (X.blk s H scope (compEnvC scope cells C X.env) fp).env.scope = relS scope X.env.scope := rfl
  rw [es]
  rcases locB_ok h with q | q
  · have q2 : (relS scope X.env.scope).names.lookup x = some .local := lookup_relS_keep (by decide) q
    exact ⟨.inl q2, .inr q2⟩
  · have q2 : (relS scope X.env.scope).names.lookup x = some .cell := lookup_relS_keep (by decide) q
    refine ⟨.inr q2, .inl ?_⟩
    show (scope.names.lookup x == some .cell) = true
    rw [q]
    rfl
theorem ownOf_map (N : List Str) (vs : List Nat) : (ownOf N vs).map (·.2) = vs := by
  unfold ownOf
  rw [List.map_map]
  conv => rhs; rw [← List.map_id vs]
  rfl
/-- the parts of a comprehension -/
structure LcP (X : Cx) (W : WX) (cl : Nat → List Dv → Hc → Res Dv) (gl : List Dv) (tg : Tg) (vs : List Nat) (it : MIt) (cond : MO) (elt : ME) (x t iter : Expr) (ifs : List Expr) (scope : Scope) : Prop where
  pi : PI X t iter (RI cl gl X W it)
  ok : BlkOk X.N X.env.scope scope (ownOf X.N vs)
  g : ∀ (s : Shared) (H : Hp) (C : Addr) (c : List (Str × Addr)) (fp : List Addr), PG (X.blk s H scope (compEnvC scope c C X.env) fp) t (gT X.K tg)
  tt : ∀ (s : Shared) (H : Hp) (C : Addr) (c : List (Str × Addr)) (fp : List Addr), PTs (X.blk s H scope (compEnvC scope c C X.env) fp) ifs (tC X.K X.mg cl gl W0 cond)
  te : ∀ (s : Shared) (H : Hp) (C : Addr) (c : List (Str × Addr)) (fp : List Addr), PE (X.blk s H scope (compEnvC scope c C X.env) fp) x (tE X.K X.mg cl gl W0 elt)
  hs : ∀ z, foldedSetIterable iter X.env z = pure z
  tin : tgIn tg vs = true
theorem LcP.pe {sc : Scope} {X : Cx} {W : WX} (G : Gd I N sc cl gl X W) {tg : Tg} {vs : List Nat} {it : MIt} {cond : MO} {elt : ME} {x t iter : Expr} {ifs : List Expr} {scope : Scope} {pos : Pos} (p : LcP X W cl gl tg vs it cond elt x t iter ifs scope) :
    PE X (.ListComp x [⟨t, iter, ifs, 0⟩] scope pos) (RE cl gl X W (.comp tg vs it cond elt)) := by
  have base := pe_lc (pos := pos) G.calm (by rw [G.n]; exact G.nd) p.pi p.ok p.g p.tt p.te p.hs
  rw [ownOf_map] at base
  exact PE.of base fun sg H Q q => comp_read p.tin q

mutual
theorem sE : ∀ (m : ME) {sc : Scope} {X : Cx} {W : WX}, Gd I N sc cl gl X W → ∀ (e : Expr), chkE I N sc m e = true → PE X e (RE cl gl X W m) ∧ PT X e (RT cl gl X W m)
  | .var i, sc, X, W, G, e, h => ⟨(s_var G h).1, pt_plain (s_var G h).1 (s_var G h).2⟩
  | .cst d, sc, X, W, G, e, h => have p := s_cst (cl := cl) (gl := gl) (X := X) (W := W) h; ⟨p.1, pt_plain p.1 p.2⟩
  | .glb j, sc, X, W, G, e, h => ⟨(s_glb G h).1, pt_plain (s_glb G h).1 (s_glb G h).2⟩
  | .bin op a b, sc, X, W, G, e, h => by
    simp only [chkE] at h
    split at h
    · rename_i l o r pos
      simp only [Bool.and_eq_true, decide_eq_true_eq] at h
      obtain ⟨⟨rfl, h1⟩, h2⟩ := h
      have p := s_bin (op := op) (pos := pos) (sE a G l h1).1 (sE b G r h2).1
      exact ⟨p, pt_plain p rfl⟩
    · cases h
  | .cmp op a b, sc, X, W, G, e, h => by
    simp only [chkE] at h
    split at h
    · rename_i l o r pos
      simp only [Bool.and_eq_true, decide_eq_true_eq] at h
      obtain ⟨⟨rfl, h1⟩, h2⟩ := h
      exact s_cmp G (sE a G l h1).1 (sE b G r h2).1 (mark_ok h2 _)
    · cases h
  | .chain p q a b c, sc, X, W, G, e, h => by
    simp only [chkE] at h
    split at h
    · rename_i l o u r z pos
      simp only [Bool.and_eq_true, decide_eq_true_eq] at h
      obtain ⟨⟨⟨⟨rfl, rfl⟩, h1⟩, h2⟩, h3⟩ := h
      exact s_chain G (sE a G l h1).1 (sE b G r h2).1 (sE c G z h3).1 (mark_ok h3 _)
    · cases h
  | .isn po a, sc, X, W, G, e, h => by
    simp only [chkE] at h
    split at h
    · rename_i l o k p pos
      simp only [Bool.and_eq_true, decide_eq_true_eq] at h
      obtain ⟨rfl, h1⟩ := h
      exact s_isn (sE a G l h1).1
    · cases h
  | .neg a, sc, X, W, G, e, h => by
    simp only [chkE] at h
    split at h
    · rename_i x pos
      have p := s_neg (pos := pos) (sE a G x h).1
      exact ⟨p, pt_plain p rfl⟩
    · cases h
  | .not a, sc, X, W, G, e, h => by
    simp only [chkE] at h
    split at h
    · rename_i x pos
      exact s_not (sE a G x h).1 (sE a G x h).2
    · cases h
  | .bop conj es, sc, X, W, G, e, h => by
    simp only [chkE] at h
    split at h
    · rename_i op xs pos
      simp only [Bool.and_eq_true, decide_eq_true_eq] at h
      obtain ⟨hop, h1⟩ := h
      cases xs with
      | nil =>
        cases es with
        | nil =>
          refine ⟨⟨fun pins s sg H Q I' q => ?_⟩, ⟨fun pins s sg H Q I' q => ?_⟩⟩
          · obtain ⟨al, F, h0, s', st, en, ok⟩ := q
            simp only [ev, evB] at ok
            exact False.elim ok
          · obtain ⟨al, F, h0, s', st, en, ok⟩ := q
            simp only [ev, evB, Res.bind_bad] at ok
            exact False.elim ok
        | cons m ms => simp [chkEs] at h1
      | cons x xs =>
        obtain ⟨p1, p2⟩ := sB es conj G op x xs pos hop h1
        refine ⟨PE.of p1 ?_, PT.of p2.pt ?_⟩
        · rintro sg H Q ⟨al, F, h0, s', st, en, ok⟩
          rw [ev] at ok
          exact ⟨al, F, h0, s', st, en, ok⟩
        · rintro sg H Q ⟨al, F, h0, s', st, en, ok⟩
          rw [ev] at ok
          exact ⟨al, F, h0, s', st, en, ok⟩
    · cases h
  | .ite c a b, sc, X, W, G, e, h => by
    simp only [chkE] at h
    split at h
    · rename_i x y z pos
      simp only [Bool.and_eq_true] at h
      obtain ⟨⟨h1, h2⟩, h3⟩ := h
      exact s_ite (sE c G x h1).2 (sE a G y h2).1 (sE b G z h3).1 (sE a G y h2).2 (sE b G z h3).2
    · cases h
  | .tup es, sc, X, W, G, e, h => by
    simp only [chkE] at h
    split at h
    · rename_i xs k pos
      have p := s_tup (k := k) (pos := pos) (sEs es G xs h).1
      exact ⟨p, pt_plain p rfl⟩
    · cases h
  | .lst es, sc, X, W, G, e, h => by
    simp only [chkE] at h
    split at h
    · rename_i xs pos
      have p := s_lst (pos := pos) (sEs es G xs h).1
      exact ⟨p, pt_plain p rfl⟩
    · cases h
  | .new es, sc, X, W, G, e, h => by
    simp only [chkE] at h
    split at h
    · rename_i xs pos
      have p := s_new (pos := pos) (sEs es G xs h).1
      exact ⟨p, pt_plain p rfl⟩
    · cases h
  | .dnew, sc, X, W, G, e, h => by
    simp only [chkE] at h
    split at h
    · rename_i pos
      have p := s_dnew (X := X) (cl := cl) (gl := gl) (W := W) (pos := pos)
      exact ⟨p, pt_plain p rfl⟩
    · cases h
  | .idx a b, sc, X, W, G, e, h => by
    simp only [chkE] at h
    split at h
    · rename_i x i pos
      simp only [Bool.and_eq_true] at h
      have p := s_idx G (pos := pos) (sE a G x h.1).1 (sE b G i h.2).1 (plain_ix h.2)
      exact ⟨p, pt_plain p rfl⟩
    · cases h
  | .sl a lo hi, sc, X, W, G, e, h => by
    simp only [chkE] at h
    split at h
    · rename_i x l u p1 pos
      simp only [Bool.and_eq_true] at h
      have p := s_sl (p := p1) (pos := pos) (sE a G x h.1.1).1 (sO lo G l h.1.2) (sO hi G u h.2)
      exact ⟨p, pt_plain p rfl⟩
    · cases h
  | .rev a, sc, X, W, G, e, h => by
    simp only [chkE] at h
    split at h
    · rename_i x i k p1 p2 p3 pos
      simp only [Bool.and_eq_true, decide_eq_true_eq] at h
      obtain ⟨rfl, h1⟩ := h
      have p := s_rev (k := k) (p1 := p1) (p2 := p2) (p3 := p3) (pos := pos) (sE a G x h1).1
      exact ⟨p, pt_plain p rfl⟩
    · cases h
  | .bi f es, sc, X, W, G, e, h => by
    simp only [chkE] at h
    split at h
    · rename_i x p1 xs pos
      simp only [Bool.and_eq_true] at h
      obtain ⟨⟨h1, h2⟩, h3⟩ := h
      cases q : biN f with
      | none => rw [q] at h1; cases h1
      | some y =>
        rw [q] at h1
        have e1 : x = y.1 := of_decide_eq_true h1
        subst e1
        have p := s_bi G (p := p1) (pos := pos) (x := y.1) (u := y.2) q h2 (sEs es G xs h3).1 h3
        exact ⟨p, pt_plain p rfl⟩
    · cases h
  | .bi1 f a, sc, X, W, G, e, h => by
    simp only [chkE] at h
    split at h
    · rename_i t x p1 y z p2 pos
      simp only [Bool.and_eq_true, decide_eq_true_eq] at h
      obtain ⟨⟨⟨⟨rfl, h1⟩, h2⟩, h3⟩, h4⟩ := h
      have p := s_isi G (p := p1) (q := p2) (pos := pos) h1 h2 h3 h4 (sE a G y h4).1
      exact ⟨p, pt_plain p rfl⟩
    · rename_i t u x p1 y z p2 z2 p3 kk p4 pos
      simp only [Bool.and_eq_true, decide_eq_true_eq] at h
      obtain ⟨⟨⟨⟨⟨⟨rfl, h1⟩, h2⟩, h3⟩, h4⟩, h5⟩, h6⟩ := h
      have p := s_isi2 G (p := p1) (q := p2) (q2 := p3) (q3 := p4) (kk := kk) (pos := pos) h1 h2 h3 h4 h5 h6 (sE a G y h6).1
      exact ⟨p, pt_plain p rfl⟩
    · rename_i x p1 z p2 y p3 pos
      simp only [Bool.and_eq_true, decide_eq_true_eq] at h
      obtain ⟨⟨⟨⟨rfl, h1⟩, rfl⟩, h3⟩, h4⟩ := h
      have p := s_sset G (p := p1) (q := p2) (r := p3) (pos := pos) h1 h3 h4 (sE a G y h4).1
      exact ⟨p, pt_plain p rfl⟩
    · rename_i x p1 z p2 y p3 pos
      simp only [Bool.and_eq_true, decide_eq_true_eq] at h
      obtain ⟨⟨⟨⟨rfl, h1⟩, rfl⟩, h3⟩, h4⟩ := h
      have p := s_lset G (p := p1) (q := p2) (r := p3) (pos := pos) h1 h3 h4 (sE a G y h4).1
      exact ⟨p, pt_plain p rfl⟩
    · cases h
  | .mt f o es, sc, X, W, G, e, h => by
    simp only [chkE] at h
    split at h
    · rename_i y nm ap x xs pos
      simp only [Bool.and_eq_true, decide_eq_true_eq] at h
      obtain ⟨⟨⟨⟨⟨h1, h2⟩, h3⟩, h4⟩, h5⟩, h6⟩ := h
      have p := s_mt G h1 h2 h3 h4 (sE o G y h5).1 h6 (sEs es G (x :: xs) h6).1
      exact ⟨p, pt_plain p rfl⟩
    · cases h
  | .call f es ks perm, sc, X, W, G, e, h => by
    simp only [chkE] at h
    split at h
    · rename_i x p1 xs kws pos
      simp only [Bool.and_eq_true, decide_eq_true_eq] at h
      obtain ⟨⟨⟨⟨⟨⟨h1, h2⟩, h3⟩, h4⟩, h5⟩, h6⟩, h7⟩ := h
      cases q : I.fns[f]? with
      | none => rw [q] at h1; cases h1
      | some y =>
        rw [q] at h1
        simp only [Bool.and_eq_true, decide_eq_true_eq, beq_iff_eq] at h1
        obtain ⟨e1, e2⟩ := h1
        subst e1
        have p := s_call G (p := p1) (pos := pos) (x := y.1) (ps := y.2) q h2 h3 h4 h5 e2 h6 h7 (sEs es G xs h6).1 ((sEs ks G _ h7).2 kws rfl)
        exact ⟨p, pt_plain p rfl⟩
    · cases h
  | .comp tg vs it cond elt, sc, X, W, G, e, h => by
    simp only [chkE] at h
    split at h
    · rename_i x t iter ifs as scope pos
      simp only [Bool.and_eq_true, decide_eq_true_eq] at h
      obtain ⟨⟨⟨⟨⟨⟨rfl, h2⟩, h3⟩, h4⟩, h5⟩, h6⟩, h7⟩ := h
      have pp : LcP X W cl gl tg vs it cond elt x t iter ifs scope :=
        ⟨sI it G t iter h5, by rw [G.n, G.sc]; exact blkOk_by h2, fun s H C c fp => pg_tg (Y := X.blk s H scope (compEnvC scope c C X.env) fp) (by show X.N.Nodup; rw [G.n]; exact G.nd) G.calm (fun z hz => own_ok G s H C c fp z hz) (by show tgB scope X.N tg t = true; rw [G.n]; exact h3),
          fun s H C c fp => sC cond (G.blk s H scope C c fp) ifs h6, fun s H C c fp => (sE elt (G.blk s H scope C c fp) x h7).1, fun z => foldedI_ok h5 X.env z, h4⟩
      have p := pp.pe (pos := pos) G
      exact ⟨p, pt_plain p rfl⟩
    · cases h
  | .frz a, sc, X, W, G, e, h => by
    simp only [chkE] at h
    split at h
    · rename_i x p1
      have p0 := (sE a G (.Name x p1) h).1
      have p : PE X (.Name x p1) (RE cl gl X W (.frz a)) := by
        refine PE.of p0 ?_
        rintro sg H Q ⟨al, F, h0, s, st, en, ok⟩
        simp only [ev] at ok
        refine tE.one st en ok fun al1 F1 H1 h1 v d e1 s1 en1 r1 o1 => ?_
        cases r1 with
        | @loc a n h2 =>
          have o2 : okR X.K (vpost X.K Q) (xpE X.K X.mg W sg) al1 F1 H1 (match h1[n]? with
            | some (.lst xs) => .ok (.lst xs) (h1.set n (.fz xs))
            | some (.fz xs) => .ok (.lst xs) h1
            | _ => .bad) := o1
          cases q : h1[n]? with
          | none => rw [q] at o2; exact False.elim o2
          | some c =>
            rw [q] at o2
            have cc := s1.cell n a c h2 q
            cases c with
            | lst xs =>
              obtain ⟨c0, vs, c1, c2⟩ := cc
              exact o2 al1 (upd F1 a (.lst vs)) H1 (.freeze h2 c0) (s1.freeze h2 c0 c1 c2) _ (.lst upd_same (c2.ext (.freeze (H := H1) (o := .lst vs) h2 c0)))
            | fz xs =>
              obtain ⟨vs, c1, c2⟩ := cc
              exact o2.val s1 (.lst c1 c2)
            | _ => exact False.elim o2
        | _ => exact False.elim o1
      exact ⟨p, pt_plain p rfl⟩
    · cases h
theorem sEs : ∀ (ms : MEs) {sc : Scope} {X : Cx} {W : WX}, Gd I N sc cl gl X W → ∀ (es : List Expr), chkEs I N sc ms es = true → PA X es (RA cl gl X W ms) ∧ ∀ kws : List Keyword, kws.map (fun k => k.value) = es → PK X kws (RA cl gl X W ms)
  | .nil, sc, X, W, G, es, h => by
    cases es with
    | nil => exact ⟨s_nil, fun kws e => by cases kws with
      | nil => exact s_knil
      | cons _ _ => cases e⟩
    | cons _ _ => simp [chkEs] at h
  | .cons m ms, sc, X, W, G, es, h => by
    cases es with
    | nil => simp [chkEs] at h
    | cons x xs =>
      simp only [chkEs, Bool.and_eq_true] at h
      refine ⟨s_cons (sE m G x h.1).1 (sEs ms G xs h.2).1 (star_ok h.1 xs X.env), fun kws e => ?_⟩
      cases kws with
      | nil => cases e
      | cons k kws =>
        obtain ⟨nm, v, kp⟩ := k
        simp only [List.map_cons, List.cons.injEq] at e
        obtain ⟨rfl, e2⟩ := e
        exact s_kcons (sE m G v h.1).1 ((sEs ms G xs h.2).2 kws e2)
theorem sB : ∀ (ms : MEs) (conj : Bool) {sc : Scope} {X : Cx} {W : WX}, Gd I N sc cl gl X W → ∀ (op : BoolOp) (x : Expr) (xs : List Expr) (pos : Pos), op = (if conj then .And else .Or) → chkEs I N sc ms (x :: xs) = true →
    PE X (.BoolOp op (x :: xs) pos) (tB X.K X.mg cl gl W conj ms) ∧ PW X (.BoolOp op (x :: xs) pos) (tBt X.K X.mg cl gl W conj ms)
  | .nil, conj, sc, X, W, G, op, x, xs, pos, hop, h => by simp [chkEs] at h
  | .cons m ms, conj, sc, X, W, G, op, x, xs, pos, hop, h => by
    have h' := h
    simp only [chkEs, Bool.and_eq_true] at h'
    cases xs with
    | nil =>
      cases ms with
      | nil => exact s_b1 hop (sE m G x h'.1).1 (sE m G x h'.1).2
      | cons _ _ => have := h'.2; simp [chkEs] at this
    | cons y ys =>
      cases ms with
      | nil => have := h'.2; simp [chkEs] at this
      | cons m' ms' =>
        obtain ⟨p1, p2⟩ := sB (.cons m' ms') conj G op y ys pos hop h'.2
        exact s_b2 hop (sE m G x h'.1).1 (sE m G x h'.1).2 p1 p2
theorem sO : ∀ (m : MO) {sc : Scope} {X : Cx} {W : WX}, Gd I N sc cl gl X W → ∀ (e : Option Expr), chkO I N sc m e = true → PO X e (tO X.K X.mg cl gl W m)
  | .none, sc, X, W, G, e, h => by
    cases e with
    | none => exact s_none
    | some _ => simp [chkO] at h
  | .some m, sc, X, W, G, e, h => by
    cases e with
    | none => simp [chkO] at h
    | some x => exact s_some (sE m G x (by simpa only [chkO] using h)).1
theorem sC : ∀ (m : MO) {sc : Scope} {X : Cx} {W : WX}, Gd I N sc cl gl X W → ∀ (e : List Expr), chkC I N sc m e = true → PTs X e (tC X.K X.mg cl gl W m)
  | .none, sc, X, W, G, e, h => by
    cases e with
    | nil =>
      refine PTs.of pts_nil ?_
      rintro sg H Q ⟨al, F, h0, s, st, en, ok⟩
      simp only [evC] at ok
      exact ok.now st
    | cons _ _ => simp [chkC] at h
  | .some m, sc, X, W, G, e, h => by
    simp only [chkC] at h
    split at h
    · rename_i x
      refine PTs.of (pts_one (sE m G x h).2) ?_
      rintro sg H Q ⟨al, F, h0, s, st, en, ok⟩
      simp only [evC] at ok
      exact ⟨al, F, h0, s, st, en, ok⟩
    · cases h
theorem sI : ∀ (it : MIt) {sc : Scope} {X : Cx} {W : WX}, Gd I N sc cl gl X W → ∀ (t e : Expr), chkI I N sc it t e = true → PI X t e (RI cl gl X W it)
  | .seq a, sc, X, W, G, t, e, h => s_seq (sE a G e (by simpa only [chkI] using h)).1
  | .range1 a, sc, X, W, G, t, e, h => by
    simp only [chkI] at h
    split at h
    · simp only [Bool.and_eq_true, decide_eq_true_eq] at h
      obtain ⟨⟨rfl, h1⟩, h2⟩ := h
      exact s_range1 G h1 h2 (sE a G _ h2).1
    · cases h
  | .range2 a b, sc, X, W, G, t, e, h => by
    simp only [chkI] at h
    split at h
    · simp only [Bool.and_eq_true, decide_eq_true_eq] at h
      obtain ⟨⟨⟨rfl, h1⟩, h2⟩, h3⟩ := h
      exact s_range2 G h1 h2 h3 (sE a G _ h2).1 (sE b G _ h3).1
    · cases h
  | .enum a, sc, X, W, G, t, e, h => by
    simp only [chkI] at h
    split at h
    · simp only [Bool.and_eq_true, decide_eq_true_eq] at h
      obtain ⟨⟨⟨h0, rfl⟩, h1⟩, h2⟩ := h
      exact s_enum G h0 h1 h2 (sE a G _ h2).1
    · cases h
  | .zip a b, sc, X, W, G, t, e, h => by
    simp only [chkI] at h
    split at h
    · simp only [Bool.and_eq_true, decide_eq_true_eq] at h
      obtain ⟨⟨⟨⟨h0, rfl⟩, h1⟩, h2⟩, h3⟩ := h
      exact s_zip G h0 h1 h2 h3 (sE a G _ h2).1 (sE b G _ h3).1
    · cases h
end
end
end Dn

set_option Elab.async false
set_option linter.all false
set_option maxRecDepth 100000
set_option maxHeartbeats 2000000
/-! soundness: statements -/
namespace Dn
open PySem PySem.Spec PyProof.Rows L2

section
variable (K : PySem.W.Frag) (mg : Str → Option Value) (cl : Nat → List Dv → Hc → Res Dv) (gl : List Dv) (W : WX)
def spost (D : Ends) : Post Fl := fun al F H _ r => match r with
  | .next s => ∀ sg, EnvR K al F sg s → D.nx sg H
  | .brk s => ∀ sg, EnvR K al F sg s → D.bk sg H
  | .cont s => ∀ sg, EnvR K al F sg s → D.ct sg H
  | .ret v => ∀ w, Rp K al F w v → D.rt w H
def xpS : XPost := fun al F H _ e => ∀ cls d sg, XR K mg al F e cls d H → W cls d sg H
def tS (m : MS) : TS := fun D sg H => ∃ al F h s, StR K al F H h ∧ EnvR K al F sg s ∧ okR K (spost K D) (xpS K mg W) al F H (ex cl gl m s h)
def tSs (m : MSs) : TS := fun D sg H => ∃ al F h s, StR K al F H h ∧ EnvR K al F sg s ∧ okR K (spost K D) (xpS K mg W) al F H (exs cl gl m s h)
end
/-- a def's body -/
structure GdS (I : Inf) (N : List Str) (sc : Scope) (cl : Nat → List Dv → Hc → Res Dv) (gl : List Dv) (X : Cx) (W : WX) : Prop extends Gd I N sc cl gl X W where
  kind : X.env.blockKind = .function
  fnA : ∀ x, X.fn x = true

section
variable {I : Inf} {N : List Str} {sc : Scope} {cl : Nat → List Dv → Hc → Res Dv} {gl : List Dv} {X : Cx} {W : WX}
abbrev RS (cl : Nat → List Dv → Hc → Res Dv) (gl : List Dv) (X : Cx) (W : WX) (m : MS) : TS := tS X.K X.mg cl gl W m
abbrev RSs (cl : Nat → List Dv → Hc → Res Dv) (gl : List Dv) (X : Cx) (W : WX) (m : MSs) : TS := tSs X.K X.mg cl gl W m
theorem GdS.sto (G : GdS I N sc cl gl X W) (x : Str) (h : locB sc x = true) : Loc X.env.scope x ∧ (X.fn x = true ∨ X.env.scope.names.lookup x = some .local) := by
  rw [G.sc]
  exact ⟨locB_ok h, .inl (G.fnA x)⟩
theorem okR.toE {K : PySem.W.Frag} {mg : Str → Option Value} {t : Type} {post : Post t} {al : List Addr} {F H : Hp} {r : Res t} (o : okR K post (xpS K mg W) al F H r) (sg : L2.St) : okR K post (xpE K mg W sg) al F H r :=
  o.impX fun _ _ _ _ _ _ _ z cls d xr => z cls d sg xr
theorem okR.toS {K : PySem.W.Frag} {mg : Str → Option Value} {t : Type} {post : Post t} {al : List Addr} {F H : Hp} {x : t} {h : Hc} {xp xp' : XPost} (o : okR K post xp al F H (.ok x h)) : okR K post xp' al F H (.ok x h) := o
/-- an expression, then a statement's rest that knows of no other error -/
theorem tE.oneS {K : PySem.W.Frag} {mg : Str → Option Value} {sg : L2.St} {H : Hp} {m : ME} {Q : VK} {al : List Addr} {F : Hp} {h : Hc} {s : Env1} {t : Type} {post : Post t} {k : Dv → Hc → Res t} (st : StR K al F H h) (en : EnvR K al F sg s)
    (ok : okR K post (xpS K mg W) al F H ((ev cl gl m s h).bind k))
    (f : ∀ al1 F1 H1 h1 v d, Ex al F H al1 F1 H1 → StR K al1 F1 H1 h1 → EnvR K al1 F1 sg s → Rp K al1 F1 v d → okR K post (xpS K mg W) al1 F1 H1 (k d h1) → Q v H1) : tE K mg cl gl W m sg H Q :=
  ⟨al, F, h, s, st, en, (ok.bind.toE sg).imp fun al1 F1 H1 h1 d e1 s1 o1 v r1 => f al1 F1 H1 h1 v d e1 s1 (en.ext e1) r1 o1⟩
theorem tA.oneS {K : PySem.W.Frag} {mg : Str → Option Value} {sg : L2.St} {H : Hp} {m : MEs} {Q : List V → Hp → Prop} {al : List Addr} {F : Hp} {h : Hc} {s : Env1} {t : Type} {post : Post t} {k : List Dv → Hc → Res t} (st : StR K al F H h) (en : EnvR K al F sg s)
    (ok : okR K post (xpS K mg W) al F H ((evs cl gl m s h).bind k))
    (f : ∀ al1 F1 H1 h1 v d, Ex al F H al1 F1 H1 → StR K al1 F1 H1 h1 → EnvR K al1 F1 sg s → Rps K al1 F1 v d → okR K post (xpS K mg W) al1 F1 H1 (k d h1) → Q v H1) : tA K mg cl gl W m sg H Q :=
  ⟨al, F, h, s, st, en, (ok.bind.toE sg).imp fun al1 F1 H1 h1 d e1 s1 o1 v r1 => f al1 F1 H1 h1 v d e1 s1 (en.ext e1) r1 o1⟩
theorem tT.oneS {K : PySem.W.Frag} {mg : Str → Option Value} {sg : L2.St} {H : Hp} {m : ME} {Q : Bool → Hp → Prop} {al : List Addr} {F : Hp} {h : Hc} {s : Env1} {t : Type} {post : Post t} {k : Bool → Hc → Res t} (st : StR K al F H h) (en : EnvR K al F sg s)
    (ok : okR K post (xpS K mg W) al F H ((ev cl gl m s h).bind fun x h1 => (truthR x h1).bind k))
    (f : ∀ al1 F1 H1 h1 d, Ex al F H al1 F1 H1 → StR K al1 F1 H1 h1 → EnvR K al1 F1 sg s → okR K post (xpS K mg W) al1 F1 H1 (k d h1) → Q d H1) : tT K mg cl gl W m sg H Q := by
  rw [← bind_assoc'] at ok
  exact ⟨al, F, h, s, st, en, (ok.bind.toE sg).imp fun al1 F1 H1 h1 d e1 s1 o1 => f al1 F1 H1 h1 d e1 s1 (en.ext e1) o1⟩

/-! ### sequences -/
theorem ss_nil : PSs X [] (RSs cl gl X W .nil) := by
  refine PSs.of pss_nil ?_
  rintro D sg H ⟨al, F, h0, s, st, en, ok⟩
  simp only [exs] at ok
  exact ok.now st sg en
theorem ss_cons {m : MS} {ms : MSs} {st : Stmt} {sts : List Stmt} (ha : PS X st (RS cl gl X W m)) (hb : PSs X sts (RSs cl gl X W ms)) : PSs X (st :: sts) (RSs cl gl X W (.cons m ms)) := by
  refine PSs.of (pss_cons ha hb) ?_
  rintro D sg H ⟨al, F, h0, s, st, en, ok⟩
  simp only [exs] at ok
  refine ⟨al, F, h0, s, st, en, ok.bind.imp fun al1 F1 H1 h1 r e1 s1 o1 => ?_⟩
  cases r with
  | next s2 => exact fun sg2 en2 => ⟨al1, F1, h1, s2, s1, en2, o1⟩
  | brk s2 => exact o1.now s1
  | cont s2 => exact o1.now s1
  | ret v => exact o1.now s1

/-! ### small statements -/
theorem ss_pass {pos : Pos} : PS X (.Pass pos) (RS cl gl X W .pass) := by
  refine PS.of ps_pass ?_
  rintro D sg H ⟨al, F, h0, s, st, en, ok⟩
  simp only [ex] at ok
  exact ok.now st sg en
theorem ss_brk {pos : Pos} : PS X (.Break pos) (RS cl gl X W .brk) := by
  refine PS.of ps_break ?_
  rintro D sg H ⟨al, F, h0, s, st, en, ok⟩
  simp only [ex] at ok
  exact ok.now st sg en
theorem ss_cont {pos : Pos} : PS X (.Continue pos) (RS cl gl X W .cont) := by
  refine PS.of ps_continue ?_
  rintro D sg H ⟨al, F, h0, s, st, en, ok⟩
  simp only [ex] at ok
  exact ok.now st sg en
theorem ss_never {st : Stmt} : PS X st (RS cl gl X W .never) := by
  refine PS.of ps_never ?_
  rintro D sg H ⟨al, F, h0, s, st, en, ok⟩
  simp only [ex] at ok
  exact ok
theorem ss_ret {m : ME} {e : Expr} {pos : Pos} (ha : PE X e (RE cl gl X W m)) : PS X (.Return (some e) pos) (RS cl gl X W (.ret m)) := by
  refine PS.of (ps_ret ha) ?_
  rintro D sg H ⟨al, F, h0, s, st, en, ok⟩
  simp only [ex] at ok
  exact tE.oneS st en ok fun al1 F1 H1 h1 v d e1 s1 en1 r1 o1 => o1.now s1 v r1
theorem ss_retn {pos : Pos} : PS X (.Return none pos) (RS cl gl X W .retn) := by
  refine PS.of ps_retN ?_
  rintro D sg H ⟨al, F, h0, s, st, en, ok⟩
  simp only [ex] at ok
  exact ok.now st .non .non
theorem swaps_no {m : ME} {e : Expr} (h : chkE I N sc m e = true) (hl : ∀ a b c d, e ≠ .ListComp a b c d) (t : Option Expr) (l : Nat) (env : Env) : swapsWith e t l env = pure false := by
  cases e with
  | ListComp a b c d => exact absurd rfl (hl a b c d)
  | SetComp _ _ _ _ => cases m <;> simp [chkE] at h
  | DictComp _ _ _ _ _ => cases m <;> simp [chkE] at h
  | _ => rfl
theorem ss_expr {m : ME} {e : Expr} {pos : Pos} (hk : chkE I N sc m e = true) (hl : ∀ a b c d, e ≠ .ListComp a b c d) (ha : PE X e (RE cl gl X W m)) : PS X (.Expr e pos) (RS cl gl X W (.expr m)) := by
  refine PS.of (ps_expr ha (swaps_no hk hl none pos.line X.env)) ?_
  rintro D sg H ⟨al, F, h0, s, st, en, ok⟩
  simp only [ex] at ok
  exact tE.oneS st en ok fun al1 F1 H1 h1 v d e1 s1 en1 r1 o1 => o1.now s1 sg en1
theorem ss_ite {c : ME} {a b : MSs} {x : Expr} {y z : List Stmt} {pos : Pos} (hc : PT X x (RT cl gl X W c)) (ha : PSs X y (RSs cl gl X W a)) (hb : PSs X z (RSs cl gl X W b)) : PS X (.If x y z pos) (RS cl gl X W (.ite c a b)) := by
  refine PS.of (ps_if hc ha hb) ?_
  rintro D sg H ⟨al, F, h0, s, st, en, ok⟩
  simp only [ex] at ok
  refine tT.oneS st en ok fun al1 F1 H1 h1 d e1 s1 en1 o1 => ?_
  cases d with
  | true => exact ⟨al1, F1, h1, s, s1, en1, o1⟩
  | false => exact ⟨al1, F1, h1, s, s1, en1, o1⟩
theorem ss_aug (G : GdS I N sc cl gl X W) {i : Nat} {op : BOp} {m : ME} {x : Str} {e : Expr} {p pos : Pos} (hi : N[i]? = some x) (hl : locB sc x = true) (hop : augOk op = true) (ha : PE X e (RE cl gl X W m)) : PS X (.AugAssign (.Name x p) (opOf op) e pos) (RS cl gl X W (.aug i op m)) := by
  refine PS.of (ps_aug (i := i) (by rw [G.n]; exact G.nd) (by rw [G.n]; exact hi) (G.sto x hl).1 ha (opr_aug op hop) (G.sto x hl).2) ?_
  rintro D sg H ⟨al, F, h0, s, st, en, ok⟩
  simp only [ex] at ok
  cases q : s[i]? with
  | none => rw [q] at ok; exact False.elim ok
  | some o =>
    cases o with
    | none => rw [q] at ok; exact False.elim ok
    | some d =>
      rw [q] at ok
      dsimp only at ok
      by_cases z : augD op d = true
      · rw [if_pos z] at ok
        obtain ⟨v, hv, rv⟩ := en.get i d q
        refine ⟨v, hv, tE.oneS st en ok fun al1 F1 H1 h1 w f e1 s1 en1 r1 o1 => ?_⟩
        refine ⟨al1, F1, h1, d, f, xpS X.K X.mg W, s1, rv.ext e1, r1, fun n w => ?_, fun xs w => ?_, fun xs w => ?_, fun ho xs w => ?_, o1.bind.imp fun al2 F2 H2 h2 z2 e2 s2 o2 w2 r2 => ?_⟩
        · subst w; cases z
        · subst w; cases z
        · subst w; cases z
        · subst w; subst ho; cases z
        · exact o2.now s2 _ ((en1.ext e2).set r2)
      · rw [if_neg z] at ok; exact False.elim ok
/-! ### assignment -/
theorem ss_asgN (G : GdS I N sc cl gl X W) {i : Nat} {m : ME} {x : Str} {e : Expr} {p pos : Pos} (hi : N[i]? = some x) (hl : locB sc x = true) (hs : swapsWith e (some (.Name x p)) pos.line X.env = pure false) (ha : PE X e (RE cl gl X W m)) : PS X (.Assign [.Name x p] e pos) (RS cl gl X W (.asg (.name i) m)) := by
  refine PS.of (ps_set (i := i) (by rw [G.n]; exact G.nd) (by rw [G.n]; exact hi) (G.sto x hl).1 ha hs (G.sto x hl).2) ?_
  rintro D sg H ⟨al, F, h0, s, st, en, ok⟩
  simp only [ex] at ok
  refine tE.oneS st en ok fun al1 F1 H1 h1 v d e1 s1 en1 r1 o1 => ?_
  have o2 : okR X.K (spost X.K D) (xpS X.K X.mg W) al1 F1 H1 (.ok (.next (s.set i (some d))) h1) := by cases d <;> exact o1
  exact o2.now s1 _ (en1.set r1)
theorem ss_asgLc (G : GdS I N sc cl gl X W) {i : Nat} {tg : Tg} {vs : List Nat} {it : MIt} {cond : MO} {elt : ME} {x : Str} {y t iter : Expr} {ifs : List Expr} {scope : Scope} {p q pos : Pos} (hi : N[i]? = some x) (hl : sc.names.lookup x = some .local)
    (hs : swapsWith (.ListComp y [⟨t, iter, ifs, 0⟩] scope q) (some (.Name x p)) pos.line X.env = pure true) (pp : LcP X W cl gl tg vs it cond elt y t iter ifs scope) : PS X (.Assign [.Name x p] (.ListComp y [⟨t, iter, ifs, 0⟩] scope q) pos) (RS cl gl X W (.asg (.name i) (.comp tg vs it cond elt))) := by
  have base := ps_setLc (i := i) G.calm (by rw [G.n]; exact G.nd) (by rw [G.n]; exact hi) (by rw [G.sc]; exact hl) hs pp.pi pp.ok pp.g pp.tt pp.te pp.hs
  rw [ownOf_map] at base
  refine PS.of base ?_
  rintro D sg H ⟨al, F, h0, s, st, en, ok⟩
  simp only [ex] at ok
  refine comp_read pp.tin (tE.oneS st en ok fun al1 F1 H1 h1 v d e1 s1 en1 r1 o1 => ?_)
  have o2 : okR X.K (spost X.K D) (xpS X.K X.mg W) al1 F1 H1 (.ok (.next (s.set i (some d))) h1) := by cases d <;> exact o1
  exact o2.now s1 _ (en1.set r1)
theorem sw_name {e : Expr} {x : Str} {p : Pos} {l : Nat} {env : Env} {a : Expr} {b : List Comprehension} {scope : Scope} {q : Pos} (h : e = .ListComp a b scope q) : swapsWith e (some (.Name x p)) l env = pure true ∧ env.kindOf x = some .local ∨ swapsWith e (some (.Name x p)) l env = pure false := by
  subst h
  unfold swapsWith
  cases hb : (env.blockKind == .function && env.kindOf x == some .local && p.line == (Expr.ListComp a b scope q).pos.line && !(scope.names.any fun (n, k) => n == x && (k == .local || k == .cell))) with
  | true =>
    refine .inl ⟨?_, ?_⟩
    · show pure _ = _
      rw [hb]
    · simp only [Bool.and_eq_true] at hb
      exact eq_of_beq hb.1.1.2
  | false =>
    refine .inr ?_
    show pure _ = _
    rw [hb]
theorem ss_asgT (G : GdS I N sc cl gl X W) {js : List Nat} {m : ME} {es : List Expr} {e : Expr} {k : Nat} {p pos : Pos} (ht : tgB.tgsB sc N js es = true) (hne : ∀ vs k p, e ≠ .Tuple vs k p) (ha : PE X e (RE cl gl X W m)) : PS X (.Assign [.Tuple es k p] e pos) (RS cl gl X W (.asg (.tup js) m)) := by
  have hg : PG X (.Tuple es k p) (gT X.K (.tup js)) := pg_tg (Y := X) (ow := sc) (by rw [G.n]; exact G.nd) G.calm G.sto (show tgB sc X.N (.tup js) (.Tuple es k p) = true by rw [G.n]; exact ht)
  have h1 : swapsWithSole [.Tuple es k p] e pos.line X.env = pure false := by cases e <;> rfl
  have h2 : swappedStores [.Tuple es k p] e X.env = pure none := by
    cases e with
    | Tuple vs k p => exact absurd rfl (hne vs k p)
    | _ => rfl
  refine PS.of (ps_asg ha hg h1 h2 rfl) ?_
  rintro D sg H ⟨al, F, h0, s, st, en, ok⟩
  simp only [ex] at ok
  refine tE.oneS st en ok fun al1 F1 H1 h1 v d e1 s1 en1 r1 o1 => ?_
  cases q : tgD (.tup js) d s with
  | none => rw [q] at o1; exact False.elim o1
  | some s2 =>
    rw [q] at o1
    obtain ⟨sg2, hg2, en2, _⟩ := tg_ok s1 r1 en1 q
    exact hg2 _ (o1.now s1 sg2 en2)
theorem set_both (hu : X.A.units + 1 < cLine) : PSet X (fun o i v H Q => rSetL o i v H Q ∨ rSetD o i v H Q) := by
  intro pins s σ H o i v ov iv u Q I ro ri rv h
  rcases h with h | h
  · exact set_list pins s σ H o i v ov iv u Q I ro ri rv h
  · exact set_dict hu pins s σ H o i v ov iv u Q I ro ri rv h
theorem ss_seti (G : GdS I N sc cl gl X W) {o i v : ME} {x y z : Expr} {p pos : Pos} (hy : chkE I N sc i y = true) (hz : chkE I N sc v z = true) (ho : PE X x (RE cl gl X W o)) (hi : PE X y (RE cl gl X W i)) (hv : PE X z (RE cl gl X W v)) : PS X (.Assign [.Subscript x y p] z pos) (RS cl gl X W (.seti o i v)) := by
  have ha : ∀ w, assign (.Subscript x y p) X.env w = (do
      let ov ← holding [w] (eval x X.env)
      let iv ← holding [w, ov] (eval y X.env)
      standAt p
      holding [w, ov, iv] (setItem ov iv w)
      release [w, ov, iv] []) := by
    intro w
    cases y with
    | Slice _ _ _ _ => rw [chk_slice] at hy; cases hy
    | _ => rfl
  have h1 : swapsWithSole [.Subscript x y p] z pos.line X.env = pure false := by cases z <;> rfl
  have h2 : swappedStores [.Subscript x y p] z X.env = pure none := by cases z <;> rfl
  refine PS.of (ps_asg hv (pg_sub ho hi (set_both (by have := G.units; omega)) ha) h1 h2 rfl) ?_
  rintro D sg H ⟨al, F, h0, s, st, en, ok⟩
  simp only [ex] at ok
  refine tE.oneS st en ok fun al1 F1 H1 h1 vz dz e1 s1 en1 r1 o1 => tE.oneS s1 en1 o1 fun al2 F2 H2 h2 vx dx e2 s2 en2 r2 o2 => tE.oneS s2 en2 o2 fun al3 F3 H3 h3 vy dy e3 s3 en3 r3 o3 => ?_
  have r2' := r2.ext e3
  have r1' := (r1.ext e2).ext e3
  unfold setD at o3
  split at o3
  · rename_i n kvs qd
    obtain ⟨n', a, ws, en', ea, han, hcn, c0, c1, c2, c3⟩ := dct_at s3 r2' qd
    cases en'
    cases ea
    cases qk : kyOf dy with
    | none => rw [qk] at o3; exact False.elim o3
    | some k =>
      rw [qk] at o3
      dsimp only at o3
      by_cases z : SZok (kvs.length + 1) = true
      · rw [if_pos z, Res.bind_ok] at o3
        obtain ⟨p1, p2⟩ := dr_put k r1' c2 c3
        have hl : ws.length < sizeLine := by
          have e : ws.length = kvs.length := by simpa using congrArg List.length c2
          have := SZok_iff.mp z
          rw [SZ_eq]
          omega
        refine .inr ⟨a, _, rfl, by rw [ky_V r3 qk]; exact DPut.k c1 hl, ?_⟩
        have e4 := Ex.setCell (o := .dK (L2.putK ws k.key vz)) s3 han
        have s4 := s3.setCell (o := .dK (L2.putK ws k.key vz)) (c := .dct (putY k dz kvs)) han c0 ⟨c0, _, upd_same, p1, p2⟩
        exact o3 _ _ _ e4 s4 sg (en3.ext e4)
      · rw [if_neg z] at o3; exact False.elim o3
  · cases r2' with
    | @loc a n h4 =>
      cases r3 with
      | int k =>
        cases q : h3[n]? with
        | none => simp only [setS, q, Res.bind_bad] at o3; exact False.elim o3
        | some c =>
          cases c with
          | lst ys =>
            cases q2 : ixN ys.length k with
            | none => simp only [setS, q, q2, Res.bind_bad] at o3; exact False.elim o3
            | some j =>
              simp only [setS, q, q2, Res.bind_ok] at o3
              obtain ⟨c0, vs, c1, c2⟩ := s3.cell n a _ h4 q
              refine .inl ⟨a, vs, k, j, rfl, rfl, c1, by rw [c2.length]; exact q2, ?_⟩
              have e4 := Ex.setCell (o := .lst (vs.set j vz)) s3 h4
              have s4 := s3.setCell (o := .lst (vs.set j vz)) (c := .lst (ys.set j dz)) h4 c0 ⟨c0, _, upd_same, Rps.set r1' j c2⟩
              exact o3 _ _ _ e4 s4 sg (en3.ext e4)
          | _ => simp only [setS, q, Res.bind_bad] at o3; exact False.elim o3
      | _ => exact False.elim o3
    | _ => cases r3 <;> exact False.elim o3
end
end Dn

set_option Elab.async false
set_option linter.all false
set_option maxRecDepth 100000
set_option maxHeartbeats 2000000
/-! soundness: loops, a, b = x, y; all statements -/
namespace Dn
open PySem PySem.Spec PyProof.Rows L2

section
variable {I : Inf} {N : List Str} {sc : Scope} {cl : Nat → List Dv → Hc → Res Dv} {gl : List Dv} {X : Cx} {W : WX}

def swN (sc : Scope) (ts : List Expr) : List Str := ts.filterMap fun
    | .Name id pos => if sc.names.lookup id == some .local && pos.line == (ts.head?.map (·.pos.line)).getD 0 then some id else none
    | _ => none
def isStar : Expr → Bool
  | .Starred .. => true
  | _ => false
theorem swpB_eq (ts vs : List Expr) : swpB sc ts vs = if !(ts.length == 2 || ts.length == 3) || vs.length != ts.length then some none else
  if (swN sc ts).length != ts.length || (swN sc ts).eraseDups.length != (swN sc ts).length then some none else
  if vs.all (foldedForSure 8) then some none else
  if vs.all (constantsAlone 8) then none else some (some (swN sc ts)) := rfl
theorem swS_eq (ts vs : List Expr) (k k2 : Nat) (p p2 : Pos) (env : Env) : ∃ u : Sem (Option (List Str)), swappedStores [.Tuple ts k p] (.Tuple vs k2 p2) env = (if !(ts.length == 2 || ts.length == 3) || vs.length != ts.length || env.blockKind != .function then pure none else
  if vs.any isStar then pure none else
  if (swN env.scope ts).length != ts.length || (swN env.scope ts).eraseDups.length != (swN env.scope ts).length then pure none else
  if vs.all (foldedForSure 8) then pure none else
  if vs.all (constantsAlone 8) then u else pure (some (swN env.scope ts))) := ⟨_, rfl⟩
theorem swp_ok {ts vs : List Expr} {r : Option (List Str)} {k k2 : Nat} {p p2 : Pos} {env : Env} (hsc : env.scope = sc) (hk : env.blockKind = .function) (hv : ∀ v ∈ vs, ∀ x p, v ≠ .Starred x p) (h : swpB sc ts vs = some r) : swappedStores [.Tuple ts k p] (.Tuple vs k2 p2) env = pure r := by
  have hst : vs.any isStar = false := by
    rw [List.any_eq_false]
    intro v hm
    have := hv v hm
    cases v with
    | Starred x p => exact absurd rfl (this x p)
    | _ => simp [isStar]
  rw [swpB_eq] at h
  obtain ⟨u, hu⟩ := swS_eq ts vs k k2 p p2 env
  rw [hu, hst, hk, hsc]
  generalize swN sc ts = n at *
  have z0 : ((ScopeKind.function != ScopeKind.function) : Bool) = false := by decide
  rw [z0, Bool.or_false, if_neg Bool.false_ne_true]
  split at h
  · rename_i z; rw [if_pos z]; cases h; rfl
  · rename_i z; rw [if_neg z]
    split at h
    · rename_i z; rw [if_pos z]; cases h; rfl
    · rename_i z; rw [if_neg z]
      split at h
      · rename_i z; rw [if_pos z]; cases h; rfl
      · rename_i z; rw [if_neg z]
        split at h
        · cases h
        · rename_i z; rw [if_neg z]; cases h; rfl
theorem tgs_assign : ∀ {js : List Nat} {es : List Expr} (env : Env), tgB.tgsB sc N js es = true → es.length = js.length
  | [], [], _, _ => rfl
  | [], _ :: _, _, h => by simp [tgB.tgsB] at h
  | _ :: _, [], _, h => by simp [tgB.tgsB] at h
  | i :: js, e :: es, env, h => by
    cases e with
    | Name x p =>
      simp only [tgB.tgsB, Bool.and_eq_true] at h
      simp [tgs_assign env h.2]
    | _ => simp [tgB.tgsB] at h
theorem tgs_cons {js : List Nat} {e : Expr} {es : List Expr} (h : tgB.tgsB sc N js (e :: es) = true) : ∃ i js' x p, js = i :: js' ∧ e = .Name x p ∧ N[i]? = some x ∧ tgB.tgsB sc N js' es = true := by
  cases js with
  | nil => simp [tgB.tgsB] at h
  | cons i js =>
    cases e with
    | Name x p =>
      simp only [tgB.tgsB, Bool.and_eq_true, decide_eq_true_eq] at h
      exact ⟨i, js, x, p, rfl, rfl, h.1.1, h.2⟩
    | _ => simp [tgB.tgsB] at h
theorem tgs_nil {js : List Nat} (h : tgB.tgsB sc N js [] = true) : js = [] := by
  cases js with
  | nil => rfl
  | cons i js => simp [tgB.tgsB] at h
theorem eraseDups_len {α : Type} [BEq α] [LawfulBEq α] : ∀ (n : Nat) (l : List α), l.length ≤ n → l.eraseDups.length ≤ l.length ∧ (l.eraseDups.length = l.length → l.Nodup)
  | _, [], _ => by simp
  | 0, _ :: _, h => by simp at h
  | n + 1, a :: l, h => by
    rw [List.eraseDups_cons]
    have hf : (l.filter fun b => !b == a).length ≤ l.length := List.length_filter_le _ _
    have ih := eraseDups_len n (l.filter fun b => !b == a) (by simp at h; omega)
    refine ⟨by simp; omega, fun e => ?_⟩
    simp only [List.length_cons, Nat.add_right_cancel_iff] at e
    have e1 : (l.filter fun b => !b == a).length = l.length := by omega
    have e2 : l.filter (fun b => !b == a) = l := List.filter_eq_self.mpr (List.length_filter_eq_length_iff.mp e1)
    have e3 := ih.2 (by omega)
    rw [e2] at e3
    refine List.nodup_cons.mpr ⟨fun hm => ?_, e3⟩
    have := List.length_filter_eq_length_iff.mp e1 a hm
    simp at this
theorem swp_names {ts vs : List Expr} {r : List Str} (h : swpB sc ts vs = some (some r)) : vs.length = ts.length ∧ (ts.length = 2 ∨ ts.length = 3) ∧ r.Nodup ∧ r.length = ts.length ∧ r = swN sc ts := by
  rw [swpB_eq] at h
  split at h
  · cases h
  rename_i z1
  split at h
  · cases h
  rename_i z2
  split at h
  · cases h
  split at h
  · cases h
  cases h
  simp only [Bool.or_eq_true, Bool.not_eq_true', bne_iff_ne, ne_eq, not_or, Bool.not_eq_false, beq_iff_eq, Decidable.not_not, Bool.or_eq_false_iff] at z1 z2
  have z3 : ts.length = 2 ∨ ts.length = 3 := by
    by_cases a : ts.length = 2
    · exact .inl a
    · by_cases b : ts.length = 3
      · exact .inr b
      · exact absurd ⟨by simpa using a, by simpa using b⟩ z1.1
  exact ⟨z1.2, z3, (eraseDups_len _ _ (Nat.le_refl _)).2 z2.2, z2.1, rfl⟩
theorem swN_local {ts : List Expr} {x : Str} (h : x ∈ swN sc ts) : sc.names.lookup x = some .local := by
  obtain ⟨e, _, he⟩ := List.mem_filterMap.mp h
  cases e with
  | Name id pos =>
    dsimp only at he
    split at he
    · rename_i z
      cases he
      simp only [Bool.and_eq_true] at z
      exact eq_of_beq z.1
    · cases he
  | _ => cases he
theorem filterMap_full {α β : Type} {f : α → Option β} : ∀ {l : List α}, (l.filterMap f).length = l.length → (l.filterMap f).map some = l.map f
  | [], _ => rfl
  | a :: l, h => by
    cases q : f a with
    | none =>
      rw [List.filterMap_cons_none q] at h
      have := List.length_filterMap_le f l
      simp at h; omega
    | some b =>
      rw [List.filterMap_cons_some q] at h ⊢
      simp only [List.length_cons, Nat.add_right_cancel_iff] at h
      simp only [List.map_cons, filterMap_full h, q]
theorem swN_full {ts : List Expr} {x : Str} {p : Pos} (h : (swN sc ts).length = ts.length) : (swN sc ts).map some = ts.map fun
    | .Name id _ => some id
    | _ => none := by
  have e := filterMap_full h
  have e' : (swN sc ts).map some = _ := e
  rw [e']
  have all : ∀ o ∈ (swN sc ts).map some, ∃ y, o = some y := fun o ho => by
    obtain ⟨y, _, rfl⟩ := List.mem_map.mp ho
    exact ⟨y, rfl⟩
  rw [e'] at all
  refine List.map_congr_left fun e he => ?_
  obtain ⟨y, hy⟩ := all _ (List.mem_map.mpr ⟨e, he, rfl⟩)
  cases e with
  | Name id pos =>
    dsimp only at hy ⊢
    split at hy
    · rename_i z; rw [if_pos z]
    · cases hy
  | _ => rfl
theorem chkEs_star : ∀ {ms : MEs} {es : List Expr}, chkEs I N sc ms es = true → ∀ v ∈ es, ∀ x p, v ≠ .Starred x p
  | .nil, [], _, _, hv => by cases hv
  | .nil, _ :: _, h, _, _ => by simp [chkEs] at h
  | .cons m ms, [], h, _, _ => by simp [chkEs] at h
  | .cons m ms, e :: es, h, v, hv => by
    simp only [chkEs, Bool.and_eq_true] at h
    rcases List.mem_cons.mp hv with rfl | hv
    · rintro x p rfl
      rw [chk_star] at h; cases h.1
    · exact chkEs_star h.2 v hv
/-- a, b = x, y -/
theorem ss_par (G : GdS I N sc cl gl X W) {js : List Nat} {ms : MEs} {ts vs : List Expr} {k k2 : Nat} {p p2 pos : Pos} (ht : tgB.tgsB sc N js ts = true) (hk : chkEs I N sc ms vs = true) (hs : (swpB sc ts vs).isSome = true) (hj : js.length ≤ sizeLine) (ha : PA X vs (RA cl gl X W ms)) : PS X (.Assign [.Tuple ts k p] (.Tuple vs k2 p2) pos) (RS cl gl X W (.par js ms)) := by
  obtain ⟨r, hr⟩ := Option.isSome_iff_exists.mp hs
  have hw := swp_ok (k := k) (k2 := k2) (p := p) (p2 := p2) G.sc G.kind (chkEs_star hk) hr
  have hsole : swapsWithSole [.Tuple ts k p] (.Tuple vs k2 p2) pos.line X.env = pure false := rfl
  cases r with
  | none =>
    have hg : PG X (.Tuple ts k p) (gT X.K (.tup js)) := pg_tg (Y := X) (ow := sc) (by rw [G.n]; exact G.nd) G.calm G.sto (show tgB sc X.N (.tup js) (.Tuple ts k p) = true by rw [G.n]; exact ht)
    refine PS.of (ps_asg (pe_tup ha) hg hsole hw rfl) ?_
    rintro D sg H ⟨al, F, h0, s, st, en, ok⟩
    simp only [ex] at ok
    refine tA.oneS st en ok fun al1 F1 H1 h1 us ds e1 s1 en1 r1 o1 => ?_
    by_cases z : ds.length = js.length
    · rw [if_pos z] at o1
      have lj := tgs_assign X.env ht
      have lv : us.length = js.length := by rw [r1.length]; exact z
      have hvl : vs.length = ts.length ∨ True := .inr trivial
      refine ⟨by rw [lv]; exact hj, fun q hq => ?_⟩
      have e2 : Ex al1 F1 H1 al1 F1 (upd H1 q (.tup us)) := .other hq
      have nD : q ∉ al1 := fun hm => by
        obtain ⟨o, ho⟩ := s1.track hm
        rw [hq] at ho; cases ho
      have fD : F1 q = none := by
        cases q2 : F1 q with
        | none => rfl
        | some o => rw [s1.sub _ _ q2] at hq; cases hq
      have s2 := s1.other (o := .tup us) nD fD
      refine .inl ⟨q, us, rfl, .inl (Or.inl upd_same), lv, gsT_ok lv ?_⟩
      exact (o1.ext e2 s2).now s2 _ (sets_R r1 en1)
    · rw [if_neg z] at o1; exact False.elim o1
  | some r =>
    obtain ⟨l1, l2, nd, l3, rfl⟩ := swp_names hr
    have hN : X.N.Nodup := by rw [G.n]; exact G.nd
    have loc : ∀ x ∈ swN sc ts, X.env.scope.names.lookup x = some .local := fun x hx => by rw [G.sc]; exact swN_local hx
    have ge : ∀ (i : Nat) (x : Str), N[i]? = some x → X.N[i]? = some x := fun i x h => by rw [G.n]; exact h
    have full := swN_full (sc := sc) (ts := ts) (x := "") (p := p) l3
    have ne : ∀ {i j : Nat} {x y : Str}, N[i]? = some x → N[j]? = some y → x ≠ y → i ≠ j := fun h1 h2 h3 h4 => h3 (by subst h4; rw [h1] at h2; exact Option.some.inj h2)
    rcases l2 with l2 | l2
    · obtain ⟨t1, t2, rfl⟩ : ∃ a b, ts = [a, b] := by
        match ts, l2 with
        | [a, b], _ => exact ⟨a, b, rfl⟩
      obtain ⟨v1, v2, rfl⟩ : ∃ a b, vs = [a, b] := by
        match vs, l1 with
        | [a, b], _ => exact ⟨a, b, rfl⟩
      obtain ⟨i, js, x, px, rfl, rfl, h1, ht⟩ := tgs_cons ht
      obtain ⟨j, js, y, py, rfl, rfl, h2, ht⟩ := tgs_cons ht
      obtain rfl := tgs_nil ht
      · have _u := 0
        have en : swN sc [.Name x px, .Name y py] = [x, y] := by
          have : (swN sc [.Name x px, .Name y py]).map some = [x, y].map some := full
          exact (List.map_inj_right (fun _ _ h => Option.some.inj h)).mp this
        rw [en] at nd loc hw
        have xy : x ≠ y := by simpa using nd
        refine PS.of (ps_par G.calm hN (ge _ _ h1) (ge _ _ h2) (ne h1 h2 xy) (loc x (by simp)) (loc y (by simp)) ha hw hsole) ?_
        rintro D sg H ⟨al, F, h0, s, st, en, ok⟩
        simp only [ex] at ok
        refine tA.oneS st en ok fun al1 F1 H1 h1 us ds e1 s1 en1 r1 o1 => ?_
        match us, ds, r1, o1 with
        | [a, b], [c, d], .cons r1 (.cons r2 .nil), o1 => exact ⟨a, b, rfl, o1.now s1 _ ((en1.set r1).set r2)⟩
        | [], [], .nil, o1 => exact False.elim o1
        | [_], [_], .cons _ .nil, o1 => exact False.elim o1
        | _ :: _ :: _ :: _, _ :: _ :: _ :: _, .cons _ (.cons _ (.cons _ _)), o1 => rw [if_neg (by simp)] at o1; exact False.elim o1
    · obtain ⟨t1, t2, t3, rfl⟩ : ∃ a b c, ts = [a, b, c] := by
        match ts, l2 with
        | [a, b, c], _ => exact ⟨a, b, c, rfl⟩
      obtain ⟨v1, v2, v3, rfl⟩ : ∃ a b c, vs = [a, b, c] := by
        match vs, l1 with
        | [a, b, c], _ => exact ⟨a, b, c, rfl⟩
      obtain ⟨i, js, x, px, rfl, rfl, h1, ht⟩ := tgs_cons ht
      obtain ⟨j, js, y, py, rfl, rfl, h2, ht⟩ := tgs_cons ht
      obtain ⟨l, js, z, pz, rfl, rfl, h3, ht⟩ := tgs_cons ht
      obtain rfl := tgs_nil ht
      · have _u := 0
        have en : swN sc [.Name x px, .Name y py, .Name z pz] = [x, y, z] := by
          have : (swN sc [.Name x px, .Name y py, .Name z pz]).map some = [x, y, z].map some := full
          exact (List.map_inj_right (fun _ _ h => Option.some.inj h)).mp this
        rw [en] at nd loc hw
        simp only [List.nodup_cons, List.mem_cons, List.not_mem_nil, or_false, not_or, not_false_eq_true, List.nodup_nil, and_true] at nd
        refine PS.of (ps_par3 G.calm hN (ge _ _ h1) (ge _ _ h2) (ge _ _ h3) (ne h1 h2 nd.1.1) (ne h1 h3 nd.1.2) (ne h2 h3 nd.2) (loc x (by simp)) (loc y (by simp)) (loc z (by simp)) ha hw hsole) ?_
        rintro D sg H ⟨al, F, h0, s, st, en, ok⟩
        simp only [ex] at ok
        refine tA.oneS st en ok fun al1 F1 H1 h1 us ds e1 s1 en1 r1 o1 => ?_
        match us, ds, r1, o1 with
        | [a, b, c], [d, e, f], .cons r1 (.cons r2 (.cons r3 .nil)), o1 => exact ⟨a, b, c, rfl, o1.now s1 _ (((en1.set r1).set r2).set r3)⟩
        | [], [], .nil, o1 => exact False.elim o1
        | [_], [_], .cons _ .nil, o1 => exact False.elim o1
        | [_, _], [_, _], .cons _ (.cons _ .nil), o1 => exact False.elim o1
        | _ :: _ :: _ :: _ :: _, _ :: _ :: _ :: _ :: _, .cons _ (.cons _ (.cons _ (.cons _ _))), o1 => rw [if_neg (by simp)] at o1; exact False.elim o1
/-! ### loops -/
def bodyF (cl : Nat → List Dv → Hc → Res Dv) (gl : List Dv) (t : Tg) (body : MSs) : Dv → Env1 → Hc → Res Fl := fun x s1 h2 => match tgD t x s1 with
  | some s2 => exs cl gl body s2 h2
  | none => .bad
theorem ex_forr (t : Tg) (it : MIt) (body : MSs) (s : Env1) (h : Hc) : ex cl gl (.forr t it body) s h = (evI cl gl it s h).bind fun items h1 => forL (bodyF cl gl t body) items s h1 := by
  rw [ex]
  rfl
theorem ss_forr (G : GdS I N sc cl gl X W) {t : Tg} {it : MIt} {body : MSs} {tg iter : Expr} {b : List Stmt} {pos : Pos} (ht : tgB sc N t tg = true) (hk : chkI I N sc it tg iter = true) (hi : PI X tg iter (RI cl gl X W it)) (hb : PSs X b (RSs cl gl X W body)) : PS X (.For tg iter b [] pos) (RS cl gl X W (.forr t it body)) := by
  have hg : PG X tg (gT X.K t) := pg_tg (Y := X) (ow := sc) (by rw [G.n]; exact G.nd) G.calm G.sto (by rw [G.n]; exact ht)
  refine PS.of (ps_for G.pass G.calm hi hg hb (fun z => foldedI_ok hk X.env z)) ?_
  rintro D sg H ⟨al, F, h0, s, st, en, ok⟩
  rw [ex_forr] at ok
  refine ⟨al, F, h0, s, st, en, (ok.bind.toE sg).imp fun al1 F1 H1 h1 items e1 s1 o1 J jw => ?_⟩
  refine ⟨fun i m sg' H' => m = items.length - i ∧ i ≤ items.length ∧ ∃ al' F' h' s', StR X.K al' F' H' h' ∧ EnvR X.K al' F' sg' s' ∧ Ex al1 F1 H1 al' F' H' ∧ okR X.K (spost X.K D) (xpS X.K X.mg W) al' F' H' (forL (bodyF cl gl t body) (items.drop i) s' h'),
    ⟨items.length, rfl, Nat.zero_le _, al1, F1, h1, s, s1, en.ext e1, .refl, o1⟩, ?_⟩
  rintro i m sg' H' ⟨rfl, hle, al', F', h', s', st', en', ex', o'⟩
  by_cases hlt : i < items.length
  · refine .inr ⟨jw.go i al' F' H' h' ex' st' hlt, fun sg2 H2 => ∃ al2 F2 h2 s2, StR X.K al2 F2 H2 h2 ∧ EnvR X.K al2 F2 sg2 s2 ∧ Ex al1 F1 H1 al2 F2 H2 ∧ okR X.K (spost X.K D) (xpS X.K X.mg W) al2 F2 H2 (forL (bodyF cl gl t body) (items.drop (i + 1)) s2 h2),
      fun sg2 H2 n2 => ⟨items.length - (i + 1), by omega, rfl, hlt, n2⟩, fun x H2 y => ?_⟩
    obtain ⟨F2, ex2, st2, d, hd, rd⟩ := jw.yld i al' F' H' h' x H2 ex' st' hlt y
    have ex12 := ex'.trans st' ex2
    have edrop : items.drop i = d :: items.drop (i + 1) := by
      rw [List.drop_eq_getElem_cons hlt]
      congr 1
      rw [List.getElem?_eq_getElem hlt] at hd
      exact Option.some.inj hd
    rw [edrop] at o'
    have o2 := o'.ext ex2 st2
    unfold forL at o2
    cases qt : tgD t d s' with
    | none => simp only [bodyF, qt, Res.bind_bad] at o2; exact False.elim o2
    | some s2 =>
      have qb : bodyF cl gl t body d s' h' = exs cl gl body s2 h' := by simp only [bodyF, qt]
      rw [qb] at o2
      obtain ⟨sg2, hg2, en2, _⟩ := tg_ok st2 rd (en'.ext ex2) qt
      refine hg2 _ ⟨al', F2, h', s2, st2, en2, o2.bind.imp fun al3 F3 H3 h3 r e3 s3 o3 => ?_⟩
      cases r with
      | next s4 => exact fun sg4 en4 => ⟨al3, F3, h3, s4, s3, en4, ex12.trans st2 e3, o3⟩
      | cont s4 => exact fun sg4 en4 => ⟨al3, F3, h3, s4, s3, en4, ex12.trans st2 e3, o3⟩
      | brk s4 => exact fun sg4 en4 => o3.now s3 sg4 en4
      | ret v => exact fun w hw => o3.now s3 w hw
  · have : i = items.length := by omega
    subst this
    rw [List.drop_length] at o'
    exact .inl ⟨jw.stop al' F' H' h' ex' st', o'.now st' sg' en'⟩
theorem ss_whil (G : GdS I N sc cl gl X W) {fuel : Nat} {c : ME} {body : MSs} {x : Expr} {b : List Stmt} {pos : Pos} (hc : PT X x (RT cl gl X W c)) (hb : PSs X b (RSs cl gl X W body)) : PS X (.While x b [] pos) (RS cl gl X W (.whil fuel c body)) := by
  refine PS.of (ps_while G.pass hc hb) ?_
  rintro D sg H ⟨al, F, h0, s, st, en, ok⟩
  simp only [ex] at ok
  refine ⟨fun m sg' H' => ∃ al' F' h' s', StR X.K al' F' H' h' ∧ EnvR X.K al' F' sg' s' ∧ okR X.K (spost X.K D) (xpS X.K X.mg W) al' F' H' (whileL (fun s1 h1 => (ev cl gl c s1 h1).bind fun x h2 => truthR x h2) (fun s1 h1 => exs cl gl body s1 h1) m s' h'),
    ⟨fuel, al, F, h0, s, st, en, ok⟩, ?_⟩
  rintro m sg' H' ⟨al', F', h', s', st', en', o'⟩
  cases m with
  | zero => simp only [whileL] at o'; exact False.elim o'
  | succ m =>
    rw [whileL, bind_assoc'] at o'
    refine tT.oneS st' en' o' fun al1 F1 H1 h1 d e1 s1 en1 o1 => ?_
    cases d with
    | false => exact o1.now s1 sg' en1
    | true =>
      rw [if_pos rfl]
      rw [if_pos rfl] at o1
      refine ⟨fun sg2 H2 => ∃ al2 F2 h2 s2, StR X.K al2 F2 H2 h2 ∧ EnvR X.K al2 F2 sg2 s2 ∧ okR X.K (spost X.K D) (xpS X.K X.mg W) al2 F2 H2 (whileL (fun s1 h1 => (ev cl gl c s1 h1).bind fun x h2 => truthR x h2) (fun s1 h1 => exs cl gl body s1 h1) m s2 h2),
        fun sg2 H2 n2 => ⟨m, by omega, n2⟩, al1, F1, h1, s', s1, en1, o1.bind.imp fun al3 F3 H3 h3 r e3 s3 o3 => ?_⟩
      cases r with
      | next s4 => exact fun sg4 en4 => ⟨al3, F3, h3, s4, s3, en4, o3⟩
      | cont s4 => exact fun sg4 en4 => ⟨al3, F3, h3, s4, s3, en4, o3⟩
      | brk s4 => exact fun sg4 en4 => o3.now s3 sg4 en4
      | ret v => exact fun w hw => o3.now s3 w hw
/-- what an assigned comprehension needs -/
theorem lcp_of (G : GdS I N sc cl gl X W) {tg : Tg} {vs : List Nat} {it : MIt} {cond : MO} {elt : ME} {e : Expr} (h : chkE I N sc (.comp tg vs it cond elt) e = true) : ∃ x t iter ifs scope pos, e = .ListComp x [⟨t, iter, ifs, 0⟩] scope pos ∧ LcP X W cl gl tg vs it cond elt x t iter ifs scope := by
  simp only [chkE] at h
  split at h
  · rename_i x t iter ifs as scope pos
    simp only [Bool.and_eq_true, decide_eq_true_eq] at h
    obtain ⟨⟨⟨⟨⟨⟨rfl, h2⟩, h3⟩, h4⟩, h5⟩, h6⟩, h7⟩ := h
    have G' := G.toGd
    exact ⟨x, t, iter, ifs, scope, pos, rfl,
      ⟨sI it G' t iter h5, by rw [G.n, G.sc]; exact blkOk_by h2, fun s H C c fp => pg_tg (Y := X.blk s H scope (compEnvC scope c C X.env) fp) (by show X.N.Nodup; rw [G.n]; exact G.nd) G.calm (fun z hz => own_ok G' s H C c fp z hz) (by show tgB scope X.N tg t = true; rw [G.n]; exact h3),
        fun s H C c fp => sC cond (G'.blk s H scope C c fp) ifs h6, fun s H C c fp => (sE elt (G'.blk s H scope C c fp) x h7).1, fun z => foldedI_ok h5 X.env z, h4⟩⟩
  · cases h
theorem chk_lc {m : ME} {a : Expr} {b : List Comprehension} {c : Scope} {d : Pos} (h : chkE I N sc m (.ListComp a b c d) = true) : ∃ tg vs it cond elt, m = .comp tg vs it cond elt := by
  cases m <;> first
    | exact ⟨_, _, _, _, _, rfl⟩
    | (simp [chkE] at h)
    | (rename_i f x; cases f <;> simp [chkE] at h)
theorem ss_asg (G : GdS I N sc cl gl X W) {i : Nat} {m : ME} {x : Str} {e : Expr} {p pos : Pos} (hi : N[i]? = some x) (hl : locB sc x = true) (hk : chkE I N sc m e = true) : PS X (.Assign [.Name x p] e pos) (RS cl gl X W (.asg (.name i) m)) := by
  by_cases z : ∃ a b c d, e = .ListComp a b c d
  · obtain ⟨a, b, c, d, rfl⟩ := z
    obtain ⟨tg, vs, it, cond, elt, rfl⟩ := chk_lc hk
    rcases sw_name (x := x) (p := p) (l := pos.line) (env := X.env) (a := a) (b := b) (scope := c) (q := d) rfl with ⟨w, l⟩ | w
    · obtain ⟨x', t, iter, ifs, scope, pos', e', pp⟩ := lcp_of G hk
      cases e'
      exact ss_asgLc G hi (by rw [← G.sc]; exact l) w pp
    · exact ss_asgN G hi hl w (sE _ G.toGd _ hk).1
  · exact ss_asgN G hi hl (swaps_no hk (fun a b c d h => z ⟨a, b, c, d, h⟩) _ _ _) (sE _ G.toGd _ hk).1
end

section
variable {I : Inf} {N : List Str} {sc : Scope} {cl : Nat → List Dv → Hc → Res Dv} {gl : List Dv} {X : Cx} {W : WX}
mutual
theorem sS (G : GdS I N sc cl gl X W) : ∀ (m : MS) (st : Stmt), chkS I N sc m st = true → PS X st (RS cl gl X W m)
  | .asg t m, st, h => by
    simp only [chkS] at h
    split at h
    · rename_i tg e pos
      simp only [Bool.and_eq_true] at h
      obtain ⟨⟨h1, h2⟩, h3⟩ := h
      cases t with
      | name i =>
        cases tg with
        | Name x p =>
          simp only [tgB, Bool.and_eq_true, decide_eq_true_eq] at h1
          exact ss_asg G h1.1 h1.2 h2
        | _ => simp [tgB] at h1
      | tup js =>
        cases tg with
        | Tuple es k p =>
          refine ss_asgT G h1 (fun vs k p z => ?_) (sE m G.toGd e h2).1
          subst z
          cases h3
        | _ => simp [tgB] at h1
    · cases h
  | .par js es, st, h => by
    simp only [chkS] at h
    split at h
    · rename_i ts k p vs k2 p2 pos
      simp only [Bool.and_eq_true] at h
      obtain ⟨⟨⟨h1, h2⟩, h3⟩, h4⟩ := h
      exact ss_par G h1 h2 h3 (Nat.le_trans (Nat.le_of_ble_eq_true h4) (by decide)) (sEs es G.toGd vs h2).1
    · cases h
  | .seti o i v, st, h => by
    simp only [chkS] at h
    split at h
    · simp only [Bool.and_eq_true] at h
      obtain ⟨⟨h1, h2⟩, h3⟩ := h
      exact ss_seti G h2 h3 (sE o G.toGd _ h1).1 (sE i G.toGd _ h2).1 (sE v G.toGd _ h3).1
    · cases h
  | .aug i op m, st, h => by
    simp only [chkS] at h
    split at h
    · simp only [Bool.and_eq_true, decide_eq_true_eq] at h
      obtain ⟨⟨⟨⟨h1, h2⟩, rfl⟩, h4⟩, h5⟩ := h
      exact ss_aug G h1 h2 h4 (sE m G.toGd _ h5).1
    · cases h
  | .expr m, st, h => by
    simp only [chkS] at h
    split at h
    · simp only [Bool.and_eq_true] at h
      refine ss_expr h.2 (fun a b c d z => ?_) (sE m G.toGd _ h.2).1
      subst z
      cases h.1
    · cases h
  | .ret m, st, h => by
    simp only [chkS] at h
    split at h
    · exact ss_ret (sE m G.toGd _ h).1
    · cases h
  | .retn, st, h => by
    simp only [chkS] at h
    split at h
    · exact ss_retn
    · cases h
  | .ite c a b, st, h => by
    simp only [chkS] at h
    split at h
    · simp only [Bool.and_eq_true] at h
      exact ss_ite (sE c G.toGd _ h.1.1).2 (sSs G a _ h.1.2) (sSs G b _ h.2)
    · cases h
  | .forr t it body, st, h => by
    simp only [chkS] at h
    split at h
    · simp only [Bool.and_eq_true] at h
      exact ss_forr G h.1.1 h.1.2 (sI it G.toGd _ _ h.1.2) (sSs G body _ h.2)
    · cases h
  | .whil f c body, st, h => by
    simp only [chkS] at h
    split at h
    · simp only [Bool.and_eq_true] at h
      exact ss_whil G (sE c G.toGd _ h.1).2 (sSs G body _ h.2)
    · cases h
  | .pass, st, h => by
    simp only [chkS] at h
    split at h
    · exact ss_pass
    · cases h
  | .brk, st, h => by
    simp only [chkS] at h
    split at h
    · exact ss_brk
    · cases h
  | .cont, st, h => by
    simp only [chkS] at h
    split at h
    · exact ss_cont
    · cases h
  | .never, st, h => ss_never
theorem sSs (G : GdS I N sc cl gl X W) : ∀ (ms : MSs) (sts : List Stmt), chkSs I N sc ms sts = true → PSs X sts (RSs cl gl X W ms)
  | .nil, sts, h => by
    simp only [chkSs, List.isEmpty_iff] at h
    subst h
    exact ss_nil
  | .cons m ms, sts, h => by
    simp only [chkSs] at h
    split at h
    · simp only [Bool.and_eq_true] at h
      exact ss_cons (sS G m _ h.1) (sSs G ms _ h.2)
    · cases h
end
end
end Dn

set_option Elab.async false
set_option linter.all false
set_option maxRecDepth 100000
set_option maxHeartbeats 2000000
/-! defs, calls in any depth, the law's end -/
namespace Dn
open PySem PySem.Spec PyProof.Rows L2

section
variable {K : PySem.W.Frag} {al r : List Addr} {F H : Hp}
mutual
theorem Rp.trim : ∀ {v : V} {d : Dv}, Rp K (al ++ r) F v d → belowD al.length d = true → Rp K al F v d
  | _, _, .non, _ => .non
  | _, _, .bl b, _ => .bl b
  | _, _, .int i, _ => .int i
  | _, _, .str s hs, _ => .str s hs
  | _, _, .tup q rs, h => .tup q (Rps.trim rs (by simpa only [belowD] using h))
  | _, _, .lst q rs, h => .lst q (Rps.trim rs (by simpa only [belowD] using h))
  | _, _, .loc (n := n) q, h => .loc (by
      simp only [belowD, decide_eq_true_eq] at h
      rw [List.getElem?_append_left h] at q
      exact q)
theorem Rps.trim : ∀ {vs : List V} {ds : List Dv}, Rps K (al ++ r) F vs ds → belowDs al.length ds = true → Rps K al F vs ds
  | _, _, .nil, _ => .nil
  | _, _, .cons a b, h => by
    simp only [belowDs, Bool.and_eq_true] at h
    exact .cons (a.trim h.1) (b.trim h.2)
end
theorem below_ints (n : Nat) : ∀ ns : List Int, belowDs n (ns.map .int) = true
  | [] => rfl
  | i :: ns => by simp [belowDs, belowD, below_ints n ns]
theorem CellR.below {a : Addr} {c : Cell} (q : CellR K (al ++ r) F H a c) (h : belowC al.length c = true) : CellR K al F H a c := by
  cases c with
  | lst xs => obtain ⟨q0, vs, q1, q2⟩ := q; exact ⟨q0, vs, q1, q2.trim h⟩
  | fz xs => obtain ⟨vs, q1, q2⟩ := q; exact ⟨vs, q1, q2.trim h⟩
  | scr ns => obtain ⟨q0, vs, q1, q2⟩ := q; exact ⟨q0, vs, q1, q2.trim (below_ints _ ns)⟩
  | dct kvs => obtain ⟨q0, ws, q1, q2, q3⟩ := q; exact ⟨q0, ws, q1, q2, q3.trim h⟩
theorem trim_ok {al1 : List Addr} {F1 H1 : Hp} {h h1 : Hc} {v : V} {d : Dv} {Q : VK} {xp : XPost} (s0 : StR K al F H h) (e : Ex al F H al1 F1 H1) (s1 : StR K al1 F1 H1 h1) (rv : Rp K al1 F1 v d)
    (o : okR K (vpost K Q) xp al F H (trimR h.length d h1)) : Q v H1 := by
  unfold trimR at o
  split at o
  · exact (o.ext e s1).now s1 v rv
  · rename_i hn
    split at o
    · rename_i hb
      simp only [Bool.and_eq_true, List.all_eq_true] at hb
      obtain ⟨r, rfl, hr⟩ := e.app
      rw [← s0.len] at hb o
      have rv' := rv.trim hb.1
      have s2 : StR K al F1 H1 (h1.take al.length) := by
        refine ⟨?_, (List.nodup_append.mp s1.nd).1, s1.sub, fun n a c ha hc => ?_⟩
        · rw [List.length_take, Nat.min_eq_left]
          rw [s0.len]; omega
        · have hn : n < al.length := (List.getElem?_eq_some_iff.mp ha).1
          have hc' : h1[n]? = some c := by
            rw [List.getElem?_take_of_lt hn] at hc; exact hc
          have ha' : (al ++ r)[n]? = some a := by rw [List.getElem?_append_left hn]; exact ha
          exact (s1.cell n a c ha' hc').below (hb.2 c (List.mem_of_getElem? hc))
      have e2 : Ex al F H al F1 H1 := ⟨⟨[], by simp, by simp⟩, e.fz, e.keep, e.org⟩
      exact o al F1 H1 e2 s2 v rv'
    · exact (o.ext e s1).now s1 v rv
end

/-! ### defs -/
/-- a def of the program, as the small language knows it -/
structure FnIn (I : Inf) (K : PySem.W.Frag) (mg : Str → Option Value) (fs : List MFn) (i : Nat) (x : Str) (ps : List Str) (f : Addr) (fd : FuncData) : Prop where
  m : mg x = some (.ref f)
  ex : ∃ (N : List Str) (qual : Str) (params : Arguments) (body : List Stmt) (scope : Scope) (dvs : List V) (kws : List (Str × V)) (fn : MFn), FunD K x qual params body scope dvs kws f fd ∧ FnScope N ps scope ∧ fs[i]? = some fn ∧ fn.np = ps.length ∧ fn.nn = N.length ∧ chkSs I N scope fn.body body = true
  bd : ∀ n ks perm, (i, n, ks, perm) ∈ I.calls → BdOk K fd ps n ks perm
structure Wd (I : Inf) (K : PySem.W.Frag) (mg : Str → Option Value) (fs : List MFn) (gl : List Dv) : Prop where
  fn : ∀ (i : Nat) x ps, I.fns[i]? = some (x, ps) → ∃ f fd, FnIn I K mg fs i x ps f fd
  free : ∀ x ∈ freeNames, mg x = none
  gls : ∀ (j : Nat) x d, I.cons[j]? = some x → gl[j]? = some d → ∃ v u, mg x = some u ∧ RelV v u ∧ ∀ al F, Rp K al F v d

theorem start_R {K : PySem.W.Frag} {al : List Addr} {F : Hp} {N : List Str} {vs : List V} {ds : List Dv} (r : Rps K al F vs ds) : EnvR K al F (L2.start N vs) (startD N.length ds) := by
  have hl := r.length
  refine ⟨by simp [L2.start, startD, hl], fun i d h => ?_⟩
  unfold startD at h
  by_cases z : i < ds.length
  · rw [List.getElem?_append_left (by simpa using z), List.getElem?_map] at h
    have z2 : i < vs.length := by rw [hl]; exact z
    cases q : ds[i]? with
    | none => rw [q] at h; cases h
    | some d' =>
      rw [q] at h
      simp only [Option.map_some, Option.some.injEq] at h
      subst h
      obtain ⟨v, hv, rv⟩ := r.get q
      refine ⟨v, ?_, rv⟩
      unfold L2.start
      rw [List.getElem?_append_left (by simpa using z2), List.getElem?_map, hv]
      rfl
  · rw [List.getElem?_append_right (by simpa using z)] at h
    rw [List.getElem?_replicate] at h
    split at h <;> cases h

theorem fn_ok {I : Inf} {K : PySem.W.Frag} {mg : Str → Option Value} {fs : List MFn} {gl : List Dv} {P : Program} {w : World} {base : Heap} (Z : Wd I K mg fs gl) : ∀ (k : Nat) (i : Nat) (x : Str) (ps : List Str) (f : Addr) (fd : FuncData), I.fns[i]? = some (x, ps) → FnIn I K mg fs i x ps f fd →
    FnOk P w K mg base (L2.CX P w) k f fd ps (spF K mg ps.length (callF fs gl k i))
  | 0, i, x, ps, f, fd, hi, Y => ⟨fun vs H Q E h => h.1, fun A outer s H args us vs Q E hr e b v h => by
      obtain ⟨_, al, F, h0, ds, _, _, o⟩ := h
      simp only [callF] at o
      exact False.elim o⟩
  | k + 1, i, x, ps, f, fd, hi, Y => by
    obtain ⟨N, qual, params, body, scope, dvs, kws, fn, FD, S, e1, e2, e3, chk⟩ := Y.ex
    refine FD.ok S (fun vs H Q E h => h.1) fun cdv A outer s H vs Q E hr h => ?_
    have G : GdS I N scope (callF fs gl k) gl (cxOf (L2.CX P w) P w K mg base N qual scope f cdv A outer s H E) (fun cls d _ H => E cls d H) := by
      refine ⟨⟨rfl, rfl, S.nd, rfl, passes_of rfl, takes_of rfl rfl rfl rfl, ?_, Z.free, ?_, Z.gls⟩, ?_, fun _ => rfl⟩
      · have := hr.un
        show (A.deeper (envOfC qual scope s.heap.objs.size f cdv)).units + 64 < cLine
        omega
      · intro j y qs hj
        obtain ⟨f2, fd2, Y2⟩ := Z.fn j y qs hj
        obtain ⟨_, _, _, _, _, _, _, _, FD2, _⟩ := Y2.ex
        exact ⟨f2, fd2, k, Y2.m, FD2.kp, hr, fn_ok Z k j y qs f2 fd2 hj Y2, Y2.bd⟩
      · show Env.blockKind (envOfC qual scope s.heap.objs.size f cdv) = .function
        have : (envOfC qual scope s.heap.objs.size f cdv).scope = scope := rfl
        unfold Env.blockKind
        rw [this, S.kind]
        rfl
    refine ⟨_, sSs G fn.body body chk, ?_⟩
    obtain ⟨hl, al, F, h0, ds, st, rs, o⟩ := h
    have hl2 : ds.length = fn.np := by rw [← rs.length, hl, e2]
    rw [callF] at o
    simp only [e1] at o
    rw [if_pos hl2] at o
    refine ⟨al, F, h0, startD fn.nn ds, st, by rw [e3]; exact start_R rs, ?_⟩
    -- what the body's end gives
    cases q : exs (callF fs gl k) gl fn.body (startD fn.nn ds) h0 with
    | bad => rw [q] at o; exact False.elim o
    | exc e h1 =>
      rw [q] at o
      exact fun al' F' H' ex' st' cls d sg xr => o al' F' H' ex' st' cls d xr
    | ok r h1 =>
      rw [q] at o
      simp only [Res.bind_ok] at o
      intro al' F' H' ex' st'
      cases r with
      | next s2 => exact fun sg _ => trim_ok st ex' st' .non o
      | ret v => exact fun w hw => trim_ok st ex' st' hw o
      | brk s2 => exact False.elim o
      | cont s2 => exact False.elim o
end Dn

set_option Elab.async false
set_option linter.all false
set_option maxRecDepth 100000
set_option maxHeartbeats 2000000
/-! the program's table; the law's end -/
namespace Dn
open PySem PySem.Spec PyProof.Rows L2

/-! ### the written part without the script -/
def dropK (K : PySem.W.Frag) (a : Addr) : PySem.W.Frag := K.filter fun p => p.1 != a
theorem dropK_self (a : Addr) : ∀ (K : PySem.W.Frag), (dropK K a).lookup a = none
  | [] => rfl
  | p :: K => by
    unfold dropK
    rw [List.filter_cons]
    split
    · rename_i h
      have h' : (a == p.1) = false := by
        simp only [bne_iff_ne, ne_eq] at h
        exact beq_eq_false_iff_ne.mpr fun e => h e.symm
      obtain ⟨b, o⟩ := p
      rw [List.lookup_cons, h']
      exact dropK_self a K
    · exact dropK_self a K
theorem dropK_ne {a b : Addr} (hb : b ≠ a) : ∀ (K : PySem.W.Frag), (dropK K a).lookup b = K.lookup b
  | [] => rfl
  | p :: K => by
    obtain ⟨c, o⟩ := p
    unfold dropK
    rw [List.filter_cons, List.lookup_cons]
    split
    · rw [List.lookup_cons]
      cases hc : (b == c) with
      | true => rfl
      | false => exact dropK_ne hb K
    · rename_i h
      have h' : c = a := by simpa using h
      have : (b == c) = false := beq_eq_false_iff_ne.mpr fun e => hb (e.trans h')
      rw [this]
      exact dropK_ne hb K
theorem dropK_in {K : PySem.W.Frag} {h : Heap} {a : Addr} (X : K.In h) : (dropK K a).In h := fun b o e => by
  by_cases z : b = a
  · subst z; rw [dropK_self] at e; cases e
  · rw [dropK_ne z] at e; exact X b o e
/-- the address of no list that stands in the heap -/
theorem fun_ne {K : PySem.W.Frag} {h : Heap} {a b : Addr} {o o' : Obj} (X : K.In h) (ha : h.get? a = some o) (hb : K.lookup b = some o') (hne : o.data ≠ o'.data) : b ≠ a := by
  rintro rfl
  have := X _ _ hb
  rw [ha] at this
  cases this
  exact hne rfl
theorem funD_drop {K : PySem.W.Frag} {h : Heap} {a f : Addr} {o : Obj} {xs : Array Value} {n : Nat} {x qual : Str} {params : Arguments} {body : List Stmt} {scope : Scope} {fd : FuncData} (X : K.In h) (ha : h.get? a = some o) (ho : o.data = .seq xs n) (F : FunD K x qual params body scope [] [] f fd) :
    FunD (dropK K a) x qual params body scope [] [] f fd := by
  obtain ⟨oc, od, dV, kV, doc, pm, an, cdv, ct, osl, e, lk, hcd, hD, hK⟩ := F.ex
  have nf : f ≠ a := fun_ne X ha lk (by rw [ho]; intro z; cases z)
  refine ⟨⟨oc, od, dV, kV, doc, pm, an, cdv, ct, osl, e, by rw [dropK_ne nf]; exact lk, ?_, ?_, .inl rfl⟩, ?_⟩
  · unfold PySem.W.codeIn at hcd ⊢
    split at hcd
    · rename_i c
      split at hcd
      · rename_i o' vs _ hc
        have nc : c ≠ a := fun_ne X ha hc (by rw [ho]; intro z; cases z)
        rw [dropK_ne nc, hc]
        exact hcd
      · cases hcd
    · cases hcd
  · rcases hD with ⟨_, hD⟩ | ⟨hD, _⟩
    · exact .inl ⟨rfl, hD⟩
    · exact absurd rfl hD
  · unfold PySem.W.keepIn
    dsimp only
    rw [dropK_ne nf, lk]

/-! ### the table of the defs -/
structure DT where
  d : He.DefD
  N : List Str
  ps : List Str
  fn : MFn
def nodupB : List Str → Bool
  | [] => true
  | x :: r => !r.contains x && nodupB r
theorem nodupB_ok : ∀ {l : List Str}, nodupB l = true → l.Nodup
  | [], _ => List.nodup_nil
  | x :: r, h => by
    simp only [nodupB, Bool.and_eq_true, Bool.not_eq_true'] at h
    exact List.nodup_cons.mpr ⟨fun hm => Bool.false_ne_true (h.1.symm.trans (List.contains_iff_mem.mpr hm)), nodupB_ok h.2⟩
def scopeB (N P : List Str) (sc : Scope) : Bool := decide (sc.kind = .function) && !sc.isCoroutine && !sc.isGenerator && nodupB N && decide (N.take P.length = P) && P.all (locB sc) && sc.names.all (fun y => decide (y.2 ≠ .free))
theorem scopeB_ok {N P : List Str} {sc : Scope} (h : scopeB N P sc = true) : FnScope N P sc := by
  simp only [scopeB, Bool.and_eq_true, decide_eq_true_eq, Bool.not_eq_true', List.all_eq_true] at h
  obtain ⟨⟨⟨⟨⟨⟨h1, h2⟩, h3⟩, h4⟩, h5⟩, h6⟩, h7⟩ := h
  refine ⟨h1, h2, h3, nodupB_ok h4, h5, fun x hx => ?_, h7⟩
  exact locB_ok (h6 x hx)
def DT.ok (I : Inf) (t : DT) : Bool := decide (t.d.at_ = (t.d.name, none)) && t.d.dfl.isEmpty && t.d.kwd.isEmpty && scopeB t.N t.ps t.d.scope && (t.fn.np == t.ps.length) && (t.fn.nn == t.N.length) && chkSs I t.N t.d.scope t.fn.body t.d.body
/-- a call's binding -/
def BdT (t : DT) (n : Nat) (ks : List Str) (perm : List Nat) : Prop := ∀ (kV doc pm : Value) (an : Option Addr) (cdv ct : Value) (us ws : List Value), us.length = n → ws.length = ks.length →
  bindArgs (PySem.W.fnOf t.d.name t.d.qual t.d.params t.d.body t.d.scope .none kV doc pm an cdv ct) ⟨us, ks.zip ws⟩ = pure (t.ps.zip (permL (us ++ ws) perm))
def consF : List (Str × Dv) → List He.Fa
  | [] => []
  | (x, .int i) :: r => .int x i :: consF r
  | (x, .str l) :: r => .str x (mkS l) :: consF r
  | _ :: r => consF r
def consB : List (Str × Dv) → Bool
  | [] => true
  | (_, .int _) :: r => consB r
  | (_, .str l) :: r => okSB l && consB r
  | _ :: _ => false
def faOf (tab : List DT) (cons : List (Str × Dv)) : List He.Fa := (tab.map fun t => .glo t.d.name) ++ (freeNames.map .free ++ consF cons)
structure TabOk (I : Inf) (tab : List DT) (cons : List (Str × Dv)) : Prop where
  fns : I.fns = tab.map fun t => (t.d.name, t.ps)
  cn : I.cons = cons.map (·.1)
  cok : consB cons = true
  ok : ∀ t ∈ tab, t.ok I = true
  bd : ∀ c ∈ I.calls, ∀ t, tab[c.1]? = some t → BdT t c.2.1 c.2.2.1 c.2.2.2
theorem consF_mem : ∀ {cons : List (Str × Dv)} {j : Nat} {x : Str} {d : Dv}, consB cons = true → cons[j]? = some (x, d) → (∃ i, d = .int i ∧ He.Fa.int x i ∈ consF cons) ∨ (∃ l, d = .str l ∧ StrOk l ∧ He.Fa.str x (mkS l) ∈ consF cons)
  | [], _, _, _, _, h => by simp at h
  | (y, e) :: r, 0, x, d, hb, h => by
    simp only [List.getElem?_cons_zero, Option.some.injEq, Prod.mk.injEq] at h
    obtain ⟨rfl, rfl⟩ := h
    cases e with
    | int i => exact .inl ⟨i, rfl, by simp [consF]⟩
    | str l =>
      simp only [consB, Bool.and_eq_true] at hb
      exact .inr ⟨l, rfl, okSB_ok hb.1, by simp [consF]⟩
    | _ => simp [consB] at hb
  | (y, e) :: r, j + 1, x, d, hb, h => by
    simp only [List.getElem?_cons_succ] at h
    have hb' : consB r = true := by
      cases e with
      | int i => exact hb
      | str l => simp only [consB, Bool.and_eq_true] at hb; exact hb.2
      | _ => simp [consB] at hb
    have sub : ∀ f, f ∈ consF r → f ∈ consF ((y, e) :: r) := fun f hf => by
      cases e with
      | int i => simp only [consF]; exact List.mem_cons_of_mem _ hf
      | str l => simp only [consF]; exact List.mem_cons_of_mem _ hf
      | _ => simp [consB] at hb
    rcases consF_mem hb' h with ⟨i, e1, e2⟩ | ⟨l, e1, e2, e3⟩
    · exact .inl ⟨i, e1, sub _ e2⟩
    · exact .inr ⟨l, e1, e2, sub _ e3⟩
theorem fact_mem {fa : List He.Fa} {fn : List He.DefD} {K : PySem.W.Frag} (c : He.SaysD fa fn K) {f : He.Fa} (h : f ∈ fa) : f.ok K = true := by
  obtain ⟨i, hi, e⟩ := List.mem_iff_getElem.mp h
  exact c.fact i (f := f) (by rw [List.getElem?_eq_getElem hi, e])
theorem fnIn_of {I : Inf} {tab : List DT} {cons : List (Str × Dv)} {K : PySem.W.Frag} {mg : Str → Option Value} {h : Heap} {a : Addr} {o : Obj} {xs : Array Value} {n : Nat} (T : TabOk I tab cons) (X : K.In h) (G : h.Ns mainGlobals mg) (ha : h.get? a = some o) (ho : o.data = .seq xs n)
    (c : He.SaysD (faOf tab cons) (tab.map (·.d)) K) {i : Nat} {t : DT} (ht : tab[i]? = some t) : ∃ f fd, FunD (dropK K a) t.d.name t.d.qual t.d.params t.d.body t.d.scope [] [] f fd ∧ FnIn I (dropK K a) mg (tab.map (·.fn)) i t.d.name t.ps f fd := by
  have tm := List.mem_of_getElem? ht
  have ok := T.ok t tm
  simp only [DT.ok, Bool.and_eq_true, decide_eq_true_eq, List.isEmpty_iff, beq_iff_eq] at ok
  obtain ⟨⟨⟨⟨⟨⟨k1, k2⟩, k3⟩, k4⟩, k5⟩, k6⟩, k7⟩ := ok
  obtain ⟨fd, F⟩ := c.def_ i (d := t.d) (by rw [List.getElem?_map, ht]; rfl)
  have e1 : t.d.dvs K = [] := by unfold He.DefD.dvs; rw [k2]; rfl
  have e2 : t.d.kws K = [] := by unfold He.DefD.kws; rw [k3]; rfl
  rw [e1, e2, k1] at F
  have F' := funD_drop X ha ho F
  refine ⟨_, fd, F', ?_, ⟨t.N, t.d.qual, t.d.params, t.d.body, t.d.scope, [], [], t.fn, F', scopeB_ok k4, by rw [List.getElem?_map, ht]; rfl, k5, k6, k7⟩, fun m ks perm hc s us ws _ l1 l2 => ?_⟩
  · exact He.glo_ok X G (fact_mem c (f := .glo t.d.name) (List.mem_append_left _ (List.mem_map.mpr ⟨t, tm, rfl⟩)))
  · obtain ⟨oc, od, dV, kV, doc, pm, an, cdv, ct, osl, rfl, lk, hcd, hD, hK⟩ := F'.ex
    rcases hD with ⟨_, rfl⟩ | ⟨hD, _⟩
    · exact .of_eq (T.bd (i, m, ks, perm) hc t ht kV doc pm an cdv ct us ws l1 l2)
    · exact absurd rfl hD
theorem wd_of {I : Inf} {tab : List DT} {cons : List (Str × Dv)} {K : PySem.W.Frag} {mg : Str → Option Value} {h : Heap} {a : Addr} {o : Obj} {xs : Array Value} {n : Nat} (T : TabOk I tab cons) (X : K.In h) (G : h.Ns mainGlobals mg) (ha : h.get? a = some o) (ho : o.data = .seq xs n)
    (c : He.SaysD (faOf tab cons) (tab.map (·.d)) K) : Wd I (dropK K a) mg (tab.map (·.fn)) (cons.map (·.2)) := by
  refine ⟨fun i x ps hi => ?_, fun x hx => ?_, fun j x d hx hd => ?_⟩
  · rw [T.fns, List.getElem?_map] at hi
    cases q : tab[i]? with
    | none => rw [q] at hi; cases hi
    | some t =>
      rw [q] at hi
      simp only [Option.map_some, Option.some.injEq, Prod.mk.injEq] at hi
      obtain ⟨rfl, rfl⟩ := hi
      obtain ⟨f, fd, _, Y⟩ := fnIn_of T X G ha ho c q
      exact ⟨f, fd, Y⟩
  · exact He.free_ok X G (fact_mem c (f := .free x) (List.mem_append_right _ (List.mem_append_left _ (List.mem_map.mpr ⟨x, hx, rfl⟩))))
  · rw [T.cn, List.getElem?_map] at hx
    rw [List.getElem?_map] at hd
    cases q : cons[j]? with
    | none => rw [q] at hx; cases hx
    | some p =>
      rw [q] at hx hd
      simp only [Option.map_some, Option.some.injEq] at hx hd
      subst hx; subst hd
      rcases consF_mem T.cok (show cons[j]? = some (p.1, p.2) from q) with ⟨i, e1, e2⟩ | ⟨l, e1, e2, e3⟩
      · obtain ⟨t, ht⟩ := He.int_ok X G (fact_mem c (f := .int p.1 i) (List.mem_append_right _ (List.mem_append_right _ e2)))
        rw [e1]
        exact ⟨.int i, _, ht, ⟨t, rfl⟩, fun al F => .int i⟩
      · obtain ⟨t, ht⟩ := He.str_ok X G (fact_mem c (f := .str p.1 (mkS l)) (List.mem_append_right _ (List.mem_append_right _ e3)))
        rw [e1]
        exact ⟨.str (mkS l), _, ht, ⟨t, rfl⟩, fun al F => .str l e2⟩

/-! ### the end -/
theorem walk_end {l : PySem.W.OpenLaw} {n k m : Nat} {q : Program} {loose : List Str} {XP : (Str → Option Value) → Heap → Prop} {d : DefRec} {I : Inf} {tab : List DT} {cons : List (Str × Dv)} {li : Nat} {tl : DT} {x : Str}
    (hn : l.most = some n) (hn2 : n ≤ sizeLine) (hdf : d.params.defaults = []) (hr : Room k callerA) (T : TabOk I tab cons) (hli : tab[li]? = some tl) (hnm : tl.d.name = d.name) (hps : tl.ps = [x]) (hb : BdT tl 1 [] [0])
    (law : ∀ ns : List Int, ns.length ≤ n → (∀ k ∈ ns, Builtin.Int.intBits k ≤ 1048576) → ∃ h', callF (tab.map (·.fn)) (cons.map (·.2)) k li [.loc 0] [.scr ns] = .ok (.bl true) h') :
    PySem.W.WalkO q loose XP (He.hookD m (faOf tab cons) (tab.map (·.d))).says l.row.toRowW d [] (fun f vs => PySem.call f vs) := by
  refine Att.attach_callB hn hdf fun w s₀ s₁ mg mb fa o pm cd doc a vs ns G Y ho hd hcd hmg hobj hints hlen hbits hg => ?_
  obtain ⟨K, KX, c⟩ := Y
  obtain ⟨f, fd, F', Y⟩ := fnIn_of T KX G.T.g hobj rfl c hli
  have Z := wd_of T KX G.T.g hobj rfl c
  have ef : f = fa := by
    have := Y.m
    rw [hnm, hmg] at this
    cases this
    rfl
  subst ef
  rw [hps] at Y
  have hI : I.fns[li]? = some (tl.d.name, [x]) := by rw [T.fns, List.getElem?_map, hli, ← hps]; rfl
  refine law_call (dropK_in KX) G.T.g G.T.b G.T.builtins G.T.nolimit hg hobj hints (Nat.le_trans hlen hn2) hr (fun base _ _ => fn_ok Z k li tl.d.name [x] f fd hI Y) (fun s u => ?_) (fun H hO hS => ?_) (fun H e s' hx => ?_)
  · obtain ⟨oc, od, dV, kV, doc, pm, an, cdv, ct, osl, rfl, lk, hcd, hD, hK⟩ := F'.ex
    rcases hD with ⟨_, rfl⟩ | ⟨hD, _⟩
    · have := hb kV doc pm an cdv ct [u] [] rfl rfl
      rw [hps] at this
      exact .of_eq this
    · exact absurd rfl hD
  · have hF : ∃ o, H a = some o := by
      rcases hS with (z | ⟨_, z⟩) | ⟨_, _, _, z, _⟩
      · exact ⟨_, z⟩
      · exact ⟨_, z⟩
      · rw [dropK_self] at z; cases z
    refine ⟨rfl, [a], H, [.scr ns], [.loc 0], ⟨rfl, by simp, fun _ _ z => z, fun i b c hb hc => ?_⟩, .cons (.loc rfl) .nil, ?_⟩
    · match i, hb, hc with
      | 0, hb, hc =>
        cases hb; cases hc
        exact ⟨hF, _, hS, Rps.of_ints ns⟩
    · obtain ⟨h', e⟩ := law ns hlen hbits
      rw [e]
      intro al' F'' H' _ _ v hv
      cases hv
      rfl
  · obtain ⟨_, _, _, _, _, _, _, _, _, _, _, _, z⟩ := hx
    exact z
end Dn
namespace Dn
def AllP {t : Type} (p : t → Prop) (l : List t) : Prop := ∀ x ∈ l, p x
theorem AllP.nil {t : Type} {p : t → Prop} : AllP p [] := fun _ h => by cases h
theorem AllP.cons {t : Type} {p : t → Prop} {x : t} {l : List t} (h : p x) (r : AllP p l) : AllP p (x :: l) := fun y hy => by
  rcases List.mem_cons.mp hy with rfl | hy
  · exact h
  · exact r y hy
theorem AllP.append {t : Type} {p : t → Prop} {a b : List t} (h : AllP p a) (r : AllP p b) : AllP p (a ++ b) := fun y hy => by
  rcases List.mem_append.mp hy with hy | hy
  · exact h y hy
  · exact r y hy
theorem atP {tab : List DT} {i : Nat} {t0 : DT} {q : DT → Prop} (h : tab[i]? = some t0) (hq : q t0) : ∀ t, tab[i]? = some t → q t := fun t ht => by
  rw [h] at ht
  cases ht
  exact hq
end Dn

set_option Elab.async false
set_option linter.all false
set_option maxRecDepth 100000
set_option maxHeartbeats 2000000
set_option exponentiation.threshold 300000
/-! running the small language on symbols; what all laws share -/
namespace Dn
open PySem L2

section
variable {cl : Nat → List Dv → Hc → Res Dv} {gl : List Dv} {h : Hc}
theorem bin_add (i j : Int) : binD .add (.int i) (.int j) h = .ok (.int (i + j)) h := rfl
theorem bin_sub (i j : Int) : binD .sub (.int i) (.int j) h = .ok (.int (i - j)) h := rfl
theorem bin_mul {i j : Int} (z : mulOk i j = true) : binD .mul (.int i) (.int j) h = .ok (.int (i * j)) h := by
  show (if mulOk i j then _ else _) = _
  rw [if_pos z]
theorem bin_fdiv {i j : Int} (z : divOk j = true) : binD .fdiv (.int i) (.int j) h = .ok (.int (i / j)) h := by
  show (if divOk j then _ else _) = _
  rw [if_pos z]
theorem bin_mod {i j : Int} (z : 0 < j) : binD .mod (.int i) (.int j) h = .ok (.int (i % j)) h := by
  show (if 0 < j then _ else _) = _
  rw [if_pos z]
theorem bin_adds {a b : List Nat} (z : a.length + b.length ≤ SZ) : binD .add (.str a) (.str b) h = .ok (.str (a ++ b)) h := by
  show (if SZok (a.length + b.length) then _ else _) = _
  rw [if_pos (SZok_iff.mpr z)]
theorem bin_addt {a b : List Dv} (z : a.length + b.length ≤ SZ) : binD .add (.tup a) (.tup b) h = .ok (.tup (a ++ b)) h := by
  show (if SZok (a.length + b.length) then _ else _) = _
  rw [if_pos (SZok_iff.mpr z)]
theorem bin_addl {a b : List Dv} (z : a.length + b.length ≤ SZ) : binD .add (.lst a) (.lst b) h = .ok (.lst (a ++ b)) h := by
  show (if SZok (a.length + b.length) then _ else _) = _
  rw [if_pos (SZok_iff.mpr z)]
theorem cmp_lt (i j : Int) : cmpD .lt (.int i) (.int j) h = .ok (.bl (decide (i < j))) h := rfl
theorem cmp_le (i j : Int) : cmpD .le (.int i) (.int j) h = .ok (.bl (decide (i ≤ j))) h := rfl
theorem cmp_gt (i j : Int) : cmpD .gt (.int i) (.int j) h = .ok (.bl (decide (j < i))) h := rfl
theorem cmp_ge (i j : Int) : cmpD .ge (.int i) (.int j) h = .ok (.bl (decide (j ≤ i))) h := rfl
theorem cmp_eqi (i j : Int) : cmpD .eq (.int i) (.int j) h = .ok (.bl (i == j)) h := rfl
theorem cmp_nei (i j : Int) : cmpD .ne (.int i) (.int j) h = .ok (.bl (!(i == j))) h := rfl
theorem cmp_eqs (a b : List Nat) : cmpD .eq (.str a) (.str b) h = .ok (.bl (a == b)) h := rfl
theorem cmp_nes (a b : List Nat) : cmpD .ne (.str a) (.str b) h = .ok (.bl (!(a == b))) h := rfl
theorem cmp_eqb (a b : Bool) : cmpD .eq (.bl a) (.bl b) h = .ok (.bl (a == b)) h := rfl
theorem cmp_neb (a b : Bool) : cmpD .ne (.bl a) (.bl b) h = .ok (.bl (!(a == b))) h := rfl
theorem bi_int (i : Int) : biD .int [.int i] h = .ok (.int i) h := rfl
theorem bi_intb (b : Bool) : biD .int [.bl b] h = .ok (.int (if b then 1 else 0)) h := rfl
theorem bi_abs (i : Int) : biD .abs [.int i] h = .ok (.int (if i < 0 then -i else i)) h := rfl
theorem bi_lens (s : List Nat) : biD .len [.str s] h = .ok (.int s.length) h := rfl
theorem bi_lent (s : List Dv) : biD .len [.tup s] h = .ok (.int s.length) h := rfl
theorem bi_lenl (s : List Dv) : biD .len [.lst s] h = .ok (.int s.length) h := rfl
theorem truth_bl (b : Bool) : truthR (.bl b) h = .ok b h := rfl
theorem truth_str (s : List Nat) : truthR (.str s) h = .ok (!s.isEmpty) h := rfl
theorem truth_int (i : Int) : truthR (.int i) h = .ok (i != 0) h := rfl
theorem truth_lst (s : List Dv) : truthR (.lst s) h = .ok (!s.isEmpty) h := rfl
theorem truth_tup (s : List Dv) : truthR (.tup s) h = .ok (!s.isEmpty) h := rfl
theorem truth_non : truthR .non h = .ok false h := rfl
theorem tg_name (i : Nat) (x : Dv) (s : Env1) : tgD (.name i) x s = some (s.set i (some x)) := by cases x <;> rfl
theorem trim_len {n : Nat} {v : Dv} {h1 : Hc} (e : h1.length = n) : trimR n v h1 = .ok v h1 := by
  unfold trimR
  rw [if_pos (Nat.le_of_eq e)]
theorem trim_app {v : Dv} {h r : Hc} (hv : belowD h.length v = true) (hh : h.all (belowC h.length) = true) : trimR h.length v (h ++ r) = .ok v h := by
  unfold trimR
  cases r with
  | nil => rw [List.append_nil, if_pos (Nat.le_refl _)]
  | cons c r =>
    rw [if_neg (by simp), if_pos]
    · simp
    · simp only [List.take_left', List.take_left, Bool.and_eq_true]
      exact ⟨hv, hh⟩
theorem idx_loc {n : Nat} {i : Int} {xs : List Dv} {x : Dv} (hn : h[n]? = some (.lst xs)) (hx : atI xs i = some x) : idxD (.loc n) (.int i) h = .ok x h := by
  simp only [idxD, dctOf, idxS, lstOf, hn, atD, hx]
theorem set_loc {n j : Nat} {i : Int} {xs : List Dv} {v : Dv} (hn : h[n]? = some (.lst xs)) (hx : ixN xs.length i = some j) : setD (.loc n) (.int i) v h = .ok () (h.set n (.lst (xs.set j v))) := by
  simp only [setD, dctOf, setS, hn, hx]
theorem get_set {n : Nat} {c d : Cell} (hn : h[n]? = some c) : (h.set n d)[n]? = some d := by
  rw [List.getElem?_set_self]
  exact (List.getElem?_eq_some_iff.mp hn).1
theorem mulOk_l {i j : Int} (z : i.natAbs < 2 ^ 64) : mulOk i j = true := by simp [mulOk, z]
theorem mulOk_r {i j : Int} (z : j.natAbs < 2 ^ 64) : mulOk i j = true := by simp [mulOk, z]
theorem divOk_of {j : Int} (z : 0 < j) (z2 : j < 2 ^ 62) : divOk j = true := by
  have : j.natAbs < 2 ^ 8000 := Nat.lt_of_lt_of_le (show j.natAbs < 2 ^ 62 by omega) (Nat.pow_le_pow_right (by decide) (by decide))
  simp [divOk, z, this]
end
def endR (n : Nat) : Fl → Hc → Res Dv
  | .next _, h1 => trimR n .non h1
  | .ret v, h1 => trimR n v h1
  | _, _ => .bad
theorem callF_in {fs : List MFn} {gl : List Dv} {k f : Nat} {fn : MFn} {vs : List Dv} {h : Hc} (hf : fs[f]? = some fn) (hl : vs.length = fn.np) : callF fs gl (k + 1) f vs h = (exs (callF fs gl k) gl fn.body (startD fn.nn vs) h).bind (endR h.length) := by
  rw [callF]
  simp only [hf]
  rw [if_pos hl]
  congr 1
  funext r h1
  cases r <;> rfl
section
variable {cl : Nat → List Dv → Hc → Res Dv} {gl : List Dv} {h h1 : Hc} {st : MS} {ss : MSs} {s s1 : Env1} {v : Dv}
theorem exs_next (e : ex cl gl st s h = .ok (.next s1) h1) : exs cl gl (.cons st ss) s h = exs cl gl ss s1 h1 := by
  rw [exs, e]
  rfl
theorem exs_ret (e : ex cl gl st s h = .ok (.ret v) h1) : exs cl gl (.cons st ss) s h = .ok (.ret v) h1 := by
  rw [exs, e]
  rfl
theorem exs_nil : exs cl gl .nil s h = .ok (.next s) h := by rw [exs]
end
theorem comp_ok {cl : Nat → List Dv → Hc → Res Dv} {gl : List Dv} {tg : Tg} {vs : List Nat} {it : MIt} {cond : MO} {elt : ME} {s : Env1} {h h1 h2 : Hc} {items ys : List Dv} (hi : evI cl gl it s h = .ok items h1) (hc : compL (compF cl gl tg vs cond elt s) items h1 = .ok ys h2) (hz : ys.length ≤ SZ) : ev cl gl (.comp tg vs it cond elt) s h = .ok (.lst ys) h2 := by
  rw [ev_comp, hi, Res.bind_ok, hc, Res.bind_ok, if_pos (SZok_iff.mpr hz)]
theorem ret_ok {cl : Nat → List Dv → Hc → Res Dv} {gl : List Dv} {m : ME} {s : Env1} {h h1 : Hc} {v : Dv} (e : ev cl gl m s h = .ok v h1) : ex cl gl (.ret m) s h = .ok (.ret v) h1 := by
  rw [ex, e]
  rfl
theorem bi_ok1 {cl : Nat → List Dv → Hc → Res Dv} {gl : List Dv} {f : BI} {m : ME} {s : Env1} {h h1 : Hc} {v : Dv} (e : ev cl gl m s h = .ok v h1) : ev cl gl (.bi f (.cons m .nil)) s h = biD f [v] h1 := by
  rw [ev, evs, e, Res.bind_ok, evs]
  rfl
theorem range1_ok {cl : Nat → List Dv → Hc → Res Dv} {gl : List Dv} {m : ME} {s : Env1} {h h1 : Hc} {j : Int} (e : ev cl gl m s h = .ok (.int j) h1) : evI cl gl (.range1 m) s h = rangeD 0 j h1 := by
  rw [evI, e]
  rfl
theorem range2_ok {cl : Nat → List Dv → Hc → Res Dv} {gl : List Dv} {m m2 : ME} {s : Env1} {h h1 h2 : Hc} {i j : Int} (e : ev cl gl m s h = .ok (.int i) h1) (e2 : ev cl gl m2 s h1 = .ok (.int j) h2) : evI cl gl (.range2 m m2) s h = rangeD i j h2 := by
  rw [evI, e, Res.bind_ok, e2]
  rfl
theorem mulOk_far (x y : Int) : mulOk x (y % 40009 + 7) = true := mulOk_r (by omega)
theorem mulOk_lit (x : Int) : mulOk x 48271 = true := mulOk_r (by decide)

/-! ### _law_take -/
def bTake : MSs := (.cons (.ite (.cmp .gt (.idx (.var 0) (.cst (.int 0))) (.cst (.int 0))) (.cons (.asg (.name 5) (.bin .mod (.bi .int (.cons (.idx (.var 0) (.cst (.int 0))) .nil)) (.var 1)))
  (.cons (.seti (.var 0) (.cst (.int 0)) (.bin .fdiv (.idx (.var 0) (.cst (.int 0))) (.var 1)))
  (.cons (.ret (.var 5))
  .nil))) .nil)
  (.cons (.seti (.var 0) (.cst (.int 2)) (.bin .add (.idx (.var 0) (.cst (.int 2))) (.cst (.int 1))))
  (.cons (.asg (.name 2) (.bin .mod (.bi .int (.cons (.bin .mul (.bin .add (.idx (.var 0) (.cst (.int 1))) (.bin .mul (.cst (.int 48271)) (.idx (.var 0) (.cst (.int 2))))) (.bin .add (.cst (.int 39373)) (.idx (.var 0) (.cst (.int 2))))) .nil)) (.cst (.int 2147483647))))
  (.cons (.asg (.name 3) (.bin .add (.bin .mod (.bi .int (.cons (.var 2) .nil)) (.cst (.int 40009))) (.cst (.int 7))))
  (.cons (.asg (.name 4) (.bin .mod (.bi .int (.cons (.bin .mul (.bin .add (.bin .add (.var 2) (.idx (.var 0) (.cst (.int 2)))) (.bin .fdiv (.idx (.var 0) (.cst (.int 1))) (.cst (.int 1000003)))) (.var 3)) .nil)) (.cst (.int 2147483629))))
  (.cons (.ret (.bin .mod (.bi .int (.cons (.bin .fdiv (.bin .mod (.bi .int (.cons (.bin .add (.bin .mul (.var 4) (.cst (.int 48271))) (.var 2)) .nil)) (.cst (.int 2147483587))) (.cst (.int 64))) .nil)) (.var 1)))
  .nil))))))
def fTake : MFn := ⟨2, 6, bTake⟩
/-- a box: what is drawn from, up to N draws so far -/
structure Box (N : Nat) (h : Hc) (n : Nat) (a b c : Int) : Prop where
  at_ : h[n]? = some (.lst [.int a, .int b, .int c])
  a0 : 0 ≤ a
  b0 : 0 ≤ b
  b1 : b < 2 ^ 62
  c0 : 0 ≤ c
  c1 : c ≤ N
theorem take_ok {fs : List MFn} {gl : List Dv} {k i : Nat} (hf : fs[i]? = some fTake) {N n : Nat} {h : Hc} {a b c B : Int} (bx : Box N h n a b c) (hN : N < 2 ^ 60) (hB : 0 < B) (hB2 : B < 2 ^ 62) :
    ∃ r a' c', callF fs gl (k + 1) i [.loc n, .int B] h = .ok (.int r) (h.set n (.lst [.int a', .int b, .int c'])) ∧ 0 ≤ r ∧ r < B ∧ Box (N + 1) (h.set n (.lst [.int a', .int b, .int c'])) n a' b c' := by
  have hn := bx.at_
  have i0 : ∀ x y z : Dv, atI [x, y, z] 0 = some x := fun _ _ _ => rfl
  have i1 : ∀ x y z : Dv, atI [x, y, z] 1 = some y := fun _ _ _ => rfl
  have i2 : ∀ x y z : Dv, atI [x, y, z] 2 = some z := fun _ _ _ => rfl
  have c0 := bx.c0
  have c1 := bx.c1
  have b0 := bx.b0
  have b1 := bx.b1
  rw [callF_in hf rfl]
  by_cases ha : 0 < a
  · refine ⟨a % B, a / B, c, ?_, Int.emod_nonneg _ (by omega), Int.emod_lt_of_pos _ hB, ⟨get_set hn, Int.ediv_nonneg bx.a0 (by omega), bx.b0, bx.b1, c0, by omega⟩⟩
    have hlen : (h.set n (.lst [.int (a / B), .int b, .int c])).length = h.length := by simp
    simp only [fTake, bTake, exs, ex, ev, evs, startD, List.map_cons, List.map_nil, List.length_cons, List.length_nil, List.replicate, List.cons_append, List.nil_append, List.getElem?_cons_zero, List.getElem?_cons_succ, Nat.reduceSub, Nat.reduceAdd, Res.bind_ok,
      idx_loc hn (i0 _ _ _), cmp_gt, truth_bl, decide_eq_true ha, if_true, bi_int, bin_mod hB, tg_name, List.set_cons_zero, List.set_cons_succ, bin_fdiv (divOk_of hB hB2), set_loc hn (show ixN 3 0 = some 0 from rfl), endR, trim_len hlen]
  · have ea : a = 0 := by have := bx.a0; omega
    subst ea
    suffices key : ∃ t, (exs (callF fs gl k) gl fTake.body (startD fTake.nn [.loc n, .int B]) h).bind (endR h.length) = .ok (.int (t % B)) (h.set n (.lst [.int 0, .int b, .int (c + 1)])) by
      obtain ⟨t, key⟩ := key
      exact ⟨t % B, 0, c + 1, key, Int.emod_nonneg _ (by omega), Int.emod_lt_of_pos _ hB, ⟨get_set hn, by omega, bx.b0, bx.b1, by omega, by omega⟩⟩
    have hlen : (h.set n (.lst [.int 0, .int b, .int (c + 1)])).length = h.length := by simp
    have hn2 : (h.set n (.lst [.int 0, .int b, .int (c + 1)]))[n]? = some (.lst [.int 0, .int b, .int (c + 1)]) := get_set hn
    have q1 : mulOk 48271 (c + 1) = true := mulOk_l (by decide)
    have q2 : mulOk (b + 48271 * (c + 1)) (39373 + (c + 1)) = true := mulOk_r (by omega)
    simp only [fTake, bTake, exs, ex, ev, evs, startD, List.map_cons, List.map_nil, List.length_cons, List.length_nil, List.replicate, List.cons_append, List.nil_append, List.getElem?_cons_zero, List.getElem?_cons_succ, Nat.reduceSub, Nat.reduceAdd, Res.bind_ok,
      idx_loc hn (i0 _ _ _), idx_loc hn (i2 _ _ _), cmp_gt, truth_bl, decide_eq_false ha, Bool.false_eq_true, if_false, bi_int, bin_add, set_loc hn (show ixN 3 2 = some 2 from rfl), idx_loc hn2 (i1 _ _ _), idx_loc hn2 (i2 _ _ _), bin_mul q1, bin_mul q2, bin_mul (mulOk_far _ _), bin_mul (mulOk_lit _),
      bin_mod (show (0 : Int) < 2147483647 by decide), bin_mod (show (0 : Int) < 40009 by decide), bin_mod (show (0 : Int) < 2147483629 by decide), bin_mod (show (0 : Int) < 2147483587 by decide), bin_fdiv (show divOk 1000003 = true from divOk_of (by decide) (by decide)), bin_fdiv (show divOk 64 = true from divOk_of (by decide) (by decide)), bin_mod hB, tg_name, List.set_cons_zero, List.set_cons_succ, endR, trim_len hlen]
    exact ⟨_, rfl⟩

/-! ### closed heaps -/
mutual
theorem belowD_mono {n m : Nat} (h : n ≤ m) : ∀ {d : Dv}, belowD n d = true → belowD m d = true
  | .non, _ => rfl
  | .bl _, _ => rfl
  | .int _, _ => rfl
  | .str _, _ => rfl
  | .tup xs, q => by
    simp only [belowD] at q ⊢
    exact belowDs_mono h q
  | .lst xs, q => by
    simp only [belowD] at q ⊢
    exact belowDs_mono h q
  | .loc k, q => by
    simp only [belowD, decide_eq_true_eq] at q ⊢
    omega
theorem belowDs_mono {n m : Nat} (h : n ≤ m) : ∀ {ds : List Dv}, belowDs n ds = true → belowDs m ds = true
  | [], _ => rfl
  | d :: ds, q => by
    simp only [belowDs, Bool.and_eq_true] at q ⊢
    exact ⟨belowD_mono h q.1, belowDs_mono h q.2⟩
end
theorem belowC_mono {n m : Nat} (h : n ≤ m) {c : Cell} (q : belowC n c = true) : belowC m c = true := by
  cases c with
  | lst xs => exact belowDs_mono h q
  | fz xs => exact belowDs_mono h q
  | scr ns => rfl
  | dct kvs => exact belowDs_mono h q
/-- no cell speaks of a cell -/
def Flat (h : Hc) : Prop := ∀ c ∈ h, belowC 0 c = true
theorem flat_nil : Flat [] := fun _ h => by cases h
theorem flat_scr (ns : List Int) : Flat [.scr ns] := fun c h => by
  rcases List.mem_singleton.mp h with rfl
  rfl
theorem Flat.app {h r : Hc} (a : Flat h) (b : Flat r) : Flat (h ++ r) := fun c hc => by
  rcases List.mem_append.mp hc with hc | hc
  · exact a c hc
  · exact b c hc
theorem Flat.one {c : Cell} (q : belowC 0 c = true) : Flat [c] := fun d h => by
  rcases List.mem_singleton.mp h with rfl
  exact q
theorem Flat.set {h : Hc} {n : Nat} {c : Cell} (a : Flat h) (q : belowC 0 c = true) : Flat (h.set n c) := fun d hd => by
  rcases List.mem_or_eq_of_mem_set hd with hd | rfl
  · exact a d hd
  · exact q
theorem trim_flat {n : Nat} {v : Dv} {h r : Hc} (hl : h.length = n) (hv : belowD 0 v = true) (f : Flat h) : trimR n v (h ++ r) = .ok v h := by
  subst hl
  exact trim_app (belowD_mono (Nat.zero_le _) hv) (List.all_eq_true.mpr fun c hc => belowC_mono (Nat.zero_le _) (f c hc))
theorem trim_flat1 {n : Nat} {v : Dv} {h : Hc} {c : Cell} (hl : h.length = n) (hv : belowD 0 v = true) (f : Flat h) : trimR n v (h ++ [c]) = .ok v h := trim_flat hl hv f
theorem Box.flat {N : Nat} {h : Hc} {n : Nat} {a b c : Int} (f : Flat h) (a' c' : Int) : Flat (h.set n (.lst [.int a', .int b, .int c'])) := f.set rfl
theorem below_ints0 (ns : List Int) : belowD 0 (.lst (ns.map .int)) = true := by
  simp only [belowD]
  exact below_ints 0 ns

/-! ### _law_box -/
def bBox (s0 : Int) : MSs := (.cons (.asg (.name 2) (.ite (.cmp .lt (.var 1) (.bi .len (.cons (.var 0) .nil))) (.idx (.var 0) (.var 1)) (.cst (.int 0))))
  (.cons (.ret (.new (.cons (.bin .mul (.bi .abs (.cons (.var 2) .nil)) (.bi .int (.cons (.cmp .ge (.bi .abs (.cons (.var 2) .nil)) (.bin .pow (.cst (.int 10)) (.cst (.int 18)))) .nil))) (.cons (.bin .add (.bin .add (.bin .mod (.bi .int (.cons (.var 2) .nil)) (.cst (.int 2305843009213693951))) (.bin .mul (.cst (.int 39373)) (.var 1))) (.cst (.int s0))) (.cons (.cst (.int 0)) .nil)))))
  .nil))
def fBox (s0 : Int) : MFn := ⟨2, 3, bBox s0⟩
theorem atI_ints {cs : List Int} {k : Nat} (hk : k < cs.length) : ∃ c, atI (cs.map Dv.int) (k : Int) = some (.int c) := by
  refine ⟨cs[k], ?_⟩
  unfold atI ixN
  simp [hk]
theorem idx_lst {h : Hc} {i : Int} {xs : List Dv} {x : Dv} (hx : atI xs i = some x) : idxD (.lst xs) (.int i) h = .ok x h := by
  simp only [idxD, dctOf, idxS, lstOf, atD, hx]
theorem box_ok {fs : List MFn} {gl : List Dv} {k i : Nat} {s0 : Int} (hs : 0 ≤ s0 ∧ s0 < 2 ^ 40) (hf : fs[i]? = some (fBox s0)) {h : Hc} {cs : List Int} {j : Nat} (hj : j < cs.length) (hj2 : j < 2 ^ 20) :
    ∃ a b, callF fs gl (k + 1) i [.lst (cs.map .int), .int j] h = .ok (.loc h.length) (h ++ [.lst [.int a, .int b, .int 0]]) ∧ Box 0 (h ++ [.lst [.int a, .int b, .int 0]]) h.length a b 0 := by
  obtain ⟨c, hc⟩ := atI_ints hj
  have q1 : decide ((j : Int) < ((cs.map Dv.int).length : Int)) = true := by simp; exact hj
  have q2 : ∀ b : Bool, mulOk (if c < 0 then -c else c) (if b then 1 else 0) = true := fun b => mulOk_r (by cases b <;> decide)
  have q3 : mulOk 39373 (j : Int) = true := mulOk_l (by decide)
  have q4 : binD .pow (.int 10) (.int 18) h = .ok (.int (10 ^ 18)) h := rfl
  have q5 : ∀ v : List Dv, trimR h.length (.loc h.length) (h ++ [.lst v]) = .ok (.loc h.length) (h ++ [.lst v]) := fun v => by
    unfold trimR
    rw [if_neg (by simp), if_neg (by simp [belowD])]
  have q6 : SZok 3 = true := by decide
  rw [callF_in hf rfl]
  refine ⟨(if c < 0 then -c else c) * (if decide ((10 : Int) ^ 18 ≤ if c < 0 then -c else c) then 1 else 0), c % 2305843009213693951 + 39373 * j + s0, ?_, ⟨?_, ?_, ?_, ?_, by omega, by omega⟩⟩
  · simp only [fBox, bBox, exs, ex, ev, evs, startD, List.map_cons, List.map_nil, List.length_cons, List.length_nil, List.replicate, List.cons_append, List.nil_append, List.getElem?_cons_zero, List.getElem?_cons_succ, Nat.reduceSub, Nat.reduceAdd, Res.bind_ok,
      bi_lenl, cmp_lt, q1, truth_bl, if_true, idx_lst hc, tg_name, List.set_cons_zero, List.set_cons_succ, bi_abs, q4, cmp_ge, bi_intb, bin_mul (q2 _), bi_int, bin_mod (show (0 : Int) < 2305843009213693951 by decide), bin_mul q3, bin_add, q6, endR, q5]
  · simp
  · apply Int.mul_nonneg <;> split <;> omega
  · omega
  · omega

theorem ixN_nat {n j : Nat} (h : j < n) : ixN n (j : Int) = some j := by
  unfold ixN
  simp only [Int.natCast_nonneg, Int.toNat_natCast]
  simp
  omega
/-! ### _law_cells -/
def bCells : MSs := (.cons (.asg (.name 2) (.bop false (.cons (.bi .listN (.cons (.sl (.var 0) .none (.some (.var 1))) .nil)) (.cons (.new (.cons (.cst (.int 0)) .nil)) .nil))))
  (.cons (.forr (.tup [3, 4]) (.enum (.sl (.var 0) (.some (.var 1)) (.some (.cst (.int 63))))) (.cons (.asg (.name 5) (.bin .mod (.bi .int (.cons (.var 3) .nil)) (.var 1)))
  (.cons (.seti (.var 2) (.var 5) (.bin .add (.idx (.var 2) (.var 5)) (.bin .mul (.var 4) (.bin .add (.var 3) (.cst (.int 2))))))
  .nil)))
  (.cons (.ret (.frz (.var 2)))
  .nil)))
def fCells : MFn := ⟨2, 6, bCells⟩
def cellsBody : MSs := (.cons (.asg (.name 5) (.bin .mod (.bi .int (.cons (.var 3) .nil)) (.var 1)))
  (.cons (.seti (.var 2) (.var 5) (.bin .add (.idx (.var 2) (.var 5)) (.bin .mul (.var 4) (.bin .add (.var 3) (.cst (.int 2))))))
  .nil))
theorem cells_loop {cl : Nat → List Dv → Hc → Res Dv} {gl : List Dv} {ns : List Int} {m : Nat} (hm : 0 < m) (hm2 : m < 2 ^ 20) : ∀ (items : List Int) (k0 : Nat) (cs : List Int) (x3 x4 x5 : Option Dv), cs.length = m → k0 + items.length < 2 ^ 30 →
    ∃ (cs' : List Int) (y3 y4 y5 : Option Dv), forL (bodyF cl gl (.tup [3, 4]) cellsBody) (enumL k0 (items.map .int)) [some (.loc 0), some (.int m), some (.loc 1), x3, x4, x5] [.scr ns, .lst (cs.map .int)] = .ok (.next [some (.loc 0), some (.int m), some (.loc 1), y3, y4, y5]) [.scr ns, .lst (cs'.map .int)] ∧ cs'.length = m
  | [], k0, cs, x3, x4, x5, hc, hk => ⟨cs, x3, x4, x5, rfl, hc⟩
  | i :: items, k0, cs, x3, x4, x5, hc, hk => by
    have hat : k0 % m < cs.length := by rw [hc]; exact Nat.mod_lt _ hm
    obtain ⟨c, e⟩ := atI_ints hat
    have e1 : (((k0 : Int) % (m : Int)) : Int) = ((k0 % m : Nat) : Int) := by simp
    have q1 : mulOk i ((k0 : Int) + 2) = true := mulOk_r (by simp at hk; omega)
    have q2 : ixN ((cs.map Dv.int).length) ((k0 % m : Nat) : Int) = some (k0 % m) := ixN_nat (by simpa using hat)
    have hn : ([.scr ns, .lst (cs.map Dv.int)] : Hc)[1]? = some (.lst (cs.map .int)) := rfl
    have q3 : ((cs.map Dv.int).set (k0 % m) (.int (c + i * ((k0 : Int) + 2)))) = (cs.set (k0 % m) (c + i * ((k0 : Int) + 2))).map Dv.int := by
      rw [List.map_set]
    obtain ⟨cs', y3, y4, y5, ih, hl⟩ := cells_loop hm hm2 (cl := cl) (gl := gl) (ns := ns) items (k0 + 1) (cs.set (k0 % m) (c + i * ((k0 : Int) + 2))) (some (.int k0)) (some (.int i)) (some (.int ((k0 % m : Nat) : Int))) (by simpa using hc) (by simp at hk; omega)
    refine ⟨cs', y3, y4, y5, ?_, hl⟩
    rw [List.map_cons, enumL, forL]
    have step : bodyF cl gl (.tup [3, 4]) cellsBody (.tup [.int k0, .int i]) [some (.loc 0), some (.int m), some (.loc 1), x3, x4, x5] [.scr ns, .lst (cs.map .int)] =
        .ok (.next [some (.loc 0), some (.int m), some (.loc 1), some (.int k0), some (.int i), some (.int ((k0 % m : Nat) : Int))]) [.scr ns, .lst ((cs.set (k0 % m) (c + i * ((k0 : Int) + 2))).map .int)] := by
      simp only [bodyF, tgD, cellsBody, exs, ex, ev, evs, List.length_cons, List.length_nil, List.zip_cons_cons, List.zip_nil_right, List.foldl_cons, List.foldl_nil, List.set_cons_zero, List.set_cons_succ, if_true, List.getElem?_cons_zero, List.getElem?_cons_succ, Res.bind_ok, bi_int, bin_mod (show (0 : Int) < (m : Int) by omega), e1, tg_name, bin_add, bin_mul q1, idx_loc hn e, set_loc hn q2, q3]
    rw [step]
    simp only [Res.bind_ok]
    have : ((k0 : Int) + 1) = ((k0 + 1 : Nat) : Int) := by simp
    rw [this]
    exact ih
theorem cells_ok {fs : List MFn} {gl : List Dv} {k i : Nat} (hf : fs[i]? = some fCells) {m : Nat} (hm : 0 < m) (hm2 : m < 60) {ns : List Int} (hns : ns.length ≤ 63) :
    ∃ cs : List Int, callF fs gl (k + 1) i [.loc 0, .int m] [.scr ns] = .ok (.lst (cs.map .int)) [.scr ns] ∧ cs.length ≤ m := by
  have s1 : slD (.loc 0) none (some (m : Int)) [.scr ns] = .ok (.lst ((ns.take m).map .int)) [.scr ns] := by
    simp only [slD, lstOf, List.getElem?_cons_zero, cutD, HT.sIx_none, HT.sIx_nat, List.drop_zero, Nat.sub_zero, List.length_map]
    rw [← List.map_take, List.take_eq_take_iff.mpr]
    simp
  have s2 : ∀ h : Hc, h[0]? = some (.scr ns) → slD (.loc 0) (some (m : Int)) (some 63) h = .ok (.lst ((ns.drop m).map .int)) h := fun h h0 => by
    have e63 : (63 : Int) = ((63 : Nat) : Int) := rfl
    rw [e63]
    simp only [slD, lstOf, h0, cutD, HT.sIx_nat, List.length_map]
    rw [← List.map_drop, ← List.map_take, Nat.min_eq_right hns]
    congr 3
    by_cases z : m ≤ ns.length
    · rw [Nat.min_eq_left z, List.take_of_length_le (by simp)]
    · rw [Nat.min_eq_right (by omega), List.drop_length, List.drop_eq_nil_of_le (by omega), List.take_nil]
  have step : ∀ (xs : List Dv), biD .listN [.lst xs] [.scr ns] = .ok (.loc 1) [.scr ns, .lst xs] := fun xs => rfl
  have tr : ∀ (xs : List Dv), truthR (.loc 1) [.scr ns, .lst xs] = .ok (!xs.isEmpty) [.scr ns, .lst xs] := fun xs => rfl
  have tgs : ∀ (n : Nat) (xs : List Dv) (h : Hc), h[n]? = some (.lst xs) → frzD (.loc n) h = .ok (.lst xs) (h.set n (.fz xs)) := fun n xs h e => by simp only [frzD, e]
  rw [callF_in hf rfl]
  have fin : ∀ (n : Nat) (h : Hc) (cs : List Int) (y3 y4 y5 : Option Dv), h[n]? = some (.lst (cs.map .int)) → (∃ r, h.set n (.fz (cs.map .int)) = [.scr ns] ++ r) → (exs (callF fs gl k) gl (.cons (.ret (.frz (.var 2))) .nil) [some (.loc 0), some (.int m), some (.loc n), y3, y4, y5] h).bind (endR 1) = .ok (.lst (cs.map .int)) [.scr ns] := fun n h cs y3 y4 y5 hn hr => by
    obtain ⟨r, hr⟩ := hr
    rw [exs_ret (v := .lst (cs.map .int)) (h1 := h.set n (.fz (cs.map .int)))]
    · rw [hr]
      exact trim_flat (h := [.scr ns]) rfl (below_ints0 cs) (flat_scr ns)
    · simp only [ex, ev, List.getElem?_cons_zero, List.getElem?_cons_succ, Res.bind_ok, tgs n _ _ hn]
  have hfor : ∀ (n : Nat) (h h' : Hc) (y3 y4 y5 : Option Dv), h[0]? = some (.scr ns) → forL (bodyF (callF fs gl k) gl (.tup [3, 4]) cellsBody) (enumL 0 ((ns.drop m).map .int)) [some (.loc 0), some (.int m), some (.loc n), none, none, none] h = .ok (.next [some (.loc 0), some (.int m), some (.loc n), y3, y4, y5]) h' →
      ex (callF fs gl k) gl (.forr (.tup [3, 4]) (.enum (.sl (.var 0) (.some (.var 1)) (.some (.cst (.int 63))))) cellsBody) [some (.loc 0), some (.int m), some (.loc n), none, none, none] h = .ok (.next [some (.loc 0), some (.int m), some (.loc n), y3, y4, y5]) h' := fun n h h' y3 y4 y5 h0 e => by
    rw [ex_forr]
    simp only [evI, ev, evO, List.getElem?_cons_zero, List.getElem?_cons_succ, Res.bind_ok, s2 _ h0, enumD, lstStill]
    exact e
  by_cases z : ns = []
  · subst z
    refine ⟨[0], ?_, hm⟩
    show (exs _ _ (.cons _ (.cons (.forr _ _ cellsBody) _)) _ _).bind (endR 1) = _
    rw [exs_next (s1 := [some (.loc 0), some (.int m), some (.loc 2), none, none, none]) (h1 := [.scr [], .lst [], .lst [.int 0]])]
    · rw [exs_next (hfor 2 _ [.scr [], .lst [], .lst [.int 0]] none none none rfl (by rw [List.drop_nil]; rfl))]
      exact fin 2 _ [0] _ _ _ rfl ⟨_, rfl⟩
    · simp only [fCells, bCells, ex, ev, evs, evB, evO, evI, startD, List.map_cons, List.map_nil, List.length_cons, List.length_nil, List.replicate, List.cons_append, List.nil_append, List.getElem?_cons_zero, List.getElem?_cons_succ, Nat.reduceSub, Nat.reduceAdd, Res.bind_ok, s1, List.take_nil, step, tr, List.isEmpty_nil, Bool.not_true, beq_self_eq_true, if_true,
        show SZok 1 = true from rfl, tg_name, List.set_cons_zero, List.set_cons_succ]
  · have ne : (ns.take m).map Dv.int ≠ [] := by
      intro e
      have e2 := congrArg List.length e
      simp at e2
      rcases e2 with e2 | e2
      · omega
      · exact z e2
    have nb : (!((ns.take m).map Dv.int).isEmpty) = true := by
      simp only [Bool.not_eq_true', List.isEmpty_eq_false_iff]
      exact ne
    have loop : ∃ (cs : List Int) (y3 y4 y5 : Option Dv), forL (bodyF (callF fs gl k) gl (.tup [3, 4]) cellsBody) (enumL 0 ((ns.drop m).map .int)) [some (.loc 0), some (.int m), some (.loc 1), none, none, none] [.scr ns, .lst ((ns.take m).map .int)] = .ok (.next [some (.loc 0), some (.int m), some (.loc 1), y3, y4, y5]) [.scr ns, .lst (cs.map .int)] ∧ cs.length ≤ m := by
      by_cases z2 : m ≤ ns.length
      · obtain ⟨cs, y3, y4, y5, e1, e2⟩ := cells_loop (cl := callF fs gl k) (gl := gl) (ns := ns) hm (by omega) (ns.drop m) 0 (ns.take m) none none none (by simp; omega) (by simp; omega)
        exact ⟨cs, y3, y4, y5, e1, by omega⟩
      · refine ⟨ns.take m, none, none, none, ?_, by simp; omega⟩
        rw [List.drop_eq_nil_of_le (by omega)]
        rfl
    obtain ⟨cs, y3, y4, y5, e1, e2⟩ := loop
    refine ⟨cs, ?_, e2⟩
    show (exs _ _ (.cons _ (.cons (.forr _ _ cellsBody) _)) _ _).bind (endR 1) = _
    rw [exs_next (s1 := [some (.loc 0), some (.int m), some (.loc 1), none, none, none]) (h1 := [.scr ns, .lst ((ns.take m).map .int)])]
    · rw [exs_next (hfor 1 _ _ y3 y4 y5 rfl e1)]
      exact fin 1 _ cs _ _ _ rfl ⟨_, rfl⟩
    · simp only [fCells, bCells, ex, ev, evs, evB, evO, evI, startD, List.map_cons, List.map_nil, List.length_cons, List.length_nil, List.replicate, List.cons_append, List.nil_append, List.getElem?_cons_zero, List.getElem?_cons_succ, Nat.reduceSub, Nat.reduceAdd, Res.bind_ok, s1, step, tr, nb, Bool.true_eq_false, beq_iff_eq, if_false, tg_name, List.set_cons_zero, List.set_cons_succ]

/-! ### law -/
def bLaw (bh ce ri bo : Nat) (m : Int) : MSs := (.cons (.ite (.not (.call bh .nil .nil [])) (.cons (.ret (.cst (.bl false)))
  .nil) .nil)
  (.cons (.asg (.name 1) (.call ce (.cons (.var 0) (.cons (.cst (.int m)) .nil)) .nil [0, 1]))
  (.cons (.ret (.bi .all (.cons (.comp (.name 2) [2] (.range1 (.bi .len (.cons (.var 1) .nil))) .none (.call ri (.cons (.call bo (.cons (.var 1) (.cons (.var 2) .nil)) .nil [0, 1]) .nil) .nil [0])) .nil)))
  .nil)))
def fLaw (bh ce ri bo : Nat) (m : Int) : MFn := ⟨1, 3, bLaw bh ce ri bo m⟩
theorem rangeL_snoc (lo : Int) : ∀ n : Nat, rangeL lo (n + 1) = rangeL lo n ++ [.int (lo + n)]
  | 0 => by simp [rangeL]
  | n + 1 => by
    rw [rangeL, rangeL_snoc (lo + 1) n, rangeL]
    simp
    omega
theorem blsOf_true : ∀ n : Nat, blsOf (List.replicate n (.bl true)) = some (List.replicate n true)
  | 0 => rfl
  | n + 1 => by simp [List.replicate_succ, blsOf, blsOf_true n]
theorem law_ok {fs : List MFn} {gl : List Dv} {k bh ce ri bo L : Nat} {m : Nat} {s0 : Int} (hm : 0 < m) (hm2 : m < 60) (hs : 0 ≤ s0 ∧ s0 < 2 ^ 40) (hf : fs[L]? = some (fLaw bh ce ri bo m)) (hce : fs[ce]? = some fCells) (hbo : fs[bo]? = some (fBox s0))
    (hbh : ∀ ns : List Int, callF fs gl (k + 1) bh [] [.scr ns] = .ok (.bl true) [.scr ns])
    (hri : ∀ (h : Hc) (n : Nat) (a b : Int), Flat h → Box 0 h n a b 0 → ∃ h', callF fs gl (k + 1) ri [.loc n] h = .ok (.bl true) h' ∧ Flat h') {ns : List Int} (hns : ns.length ≤ 63) :
    ∃ h', callF fs gl (k + 2) L [.loc 0] [.scr ns] = .ok (.bl true) h' := by
  obtain ⟨cs, hcs, hcl⟩ := cells_ok (gl := gl) (k := k) hce hm hm2 hns
  have loop : ∀ (n j : Nat) (h : Hc), Flat h → j + n = cs.length → ∃ h', compL (compF (callF fs gl (k + 1)) gl (.name 2) [2] .none (.call ri (.cons (.call bo (.cons (.var 1) (.cons (.var 2) .nil)) .nil [0, 1]) .nil) .nil [0]) [some (.loc 0), some (.lst (cs.map .int)), none]) (rangeL j n) h = .ok (List.replicate n (.bl true)) h' := by
    intro n
    induction n with
    | zero => exact fun j h _ _ => ⟨h, rfl⟩
    | succ n ih =>
      intro j h fl hj
      obtain ⟨a, b, e1, bx⟩ := box_ok (gl := gl) (k := k) hs hbo (h := h) (cs := cs) (j := j) (by omega) (by omega)
      obtain ⟨h', e2, fl'⟩ := hri _ _ a b (fl.app (.one rfl)) bx
      obtain ⟨h'', e3⟩ := ih (j + 1) h' fl' (by omega)
      refine ⟨h'', ?_⟩
      rw [rangeL, compL]
      have st : compF (callF fs gl (k + 1)) gl (.name 2) [2] .none (.call ri (.cons (.call bo (.cons (.var 1) (.cons (.var 2) .nil)) .nil [0, 1]) .nil) .nil [0]) [some (.loc 0), some (.lst (cs.map .int)), none] (.int j) h = .ok (some (.bl true)) h' := by
        simp only [compF, wipeD, List.set_cons_zero, List.set_cons_succ, tg_name, evC, Res.bind_ok, if_true, ev, evs, List.getElem?_cons_zero, List.getElem?_cons_succ, permD, List.cons_append, List.nil_append, List.append_nil, e1, e2]
      have ej : ((j : Int) + 1) = ((j + 1 : Nat) : Int) := by simp
      rw [st, ej]
      simp only [Res.calm_ok, Res.bind_ok, e3, List.replicate_succ]
  obtain ⟨h', e⟩ := loop cs.length 0 [.scr ns] (flat_scr ns) (by omega)
  have e' : compL (compF (callF fs gl (k + 1)) gl (.name 2) [2] .none (.call ri (.cons (.call bo (.cons (.var 1) (.cons (.var 2) .nil)) .nil [0, 1]) .nil) .nil [0]) [some (.loc 0), some (.lst (cs.map .int)), none]) (rangeL 0 cs.length) [.scr ns] = .ok (List.replicate cs.length (.bl true)) h' := e
  have rg : rangeD 0 ((cs.map Dv.int).length : Int) [.scr ns] = .ok (rangeL 0 cs.length) [.scr ns] := by
    unfold rangeD
    rw [if_pos (by simp; omega)]
    simp
  have al : ∀ h, biD .all [.lst (List.replicate cs.length (.bl true))] h = .ok (.bl true) h := fun h => by
    simp only [biD, lstOf, Option.bind_some, blsOf_true]
    simp
  rw [callF_in hf rfl]
  refine ⟨(match trimR 1 (.bl true) h' with | .ok _ g => g | _ => []), ?_⟩
  have x1 : ex (callF fs gl (k + 1)) gl (.ite (.not (.call bh .nil .nil [])) (.cons (.ret (.cst (.bl false))) .nil) .nil) [some (.loc 0), none, none] [.scr ns] = .ok (.next [some (.loc 0), none, none]) [.scr ns] := by
    simp only [ex, ev, evs, permD, List.nil_append, Res.bind_ok, hbh, truth_bl, Bool.not_true, Bool.false_eq_true, if_false, exs_nil]
  have x2 : ex (callF fs gl (k + 1)) gl (.asg (.name 1) (.call ce (.cons (.var 0) (.cons (.cst (.int m)) .nil)) .nil [0, 1])) [some (.loc 0), none, none] [.scr ns] = .ok (.next [some (.loc 0), some (.lst (cs.map .int)), none]) [.scr ns] := by
    simp only [ex, ev, evs, permD, List.cons_append, List.nil_append, List.append_nil, List.getElem?_cons_zero, List.getElem?_cons_succ, Res.bind_ok, hcs, tg_name, List.set_cons_zero, List.set_cons_succ]
  have x3 : ex (callF fs gl (k + 1)) gl (.ret (.bi .all (.cons (.comp (.name 2) [2] (.range1 (.bi .len (.cons (.var 1) .nil))) .none (.call ri (.cons (.call bo (.cons (.var 1) (.cons (.var 2) .nil)) .nil [0, 1]) .nil) .nil [0])) .nil))) [some (.loc 0), some (.lst (cs.map .int)), none] [.scr ns] = .ok (.ret (.bl true)) h' := by
    have y0 : evI (callF fs gl (k + 1)) gl (.range1 (.bi .len (.cons (.var 1) .nil))) [some (.loc 0), some (.lst (cs.map .int)), none] [.scr ns] = .ok (rangeL 0 cs.length) [.scr ns] := by
      exact (range1_ok (bi_ok1 (v := .lst (cs.map .int)) (by rw [ev]; rfl))).trans rg
    have y1 := comp_ok (tg := .name 2) (vs := [2]) y0 e' (by rw [List.length_replicate]; unfold SZ; omega)
    exact ret_ok ((bi_ok1 y1).trans (al h'))
  show (exs _ _ (.cons _ (.cons _ (.cons _ .nil))) [some (.loc 0), none, none] _).bind (endR 1) = _
  rw [exs_next x1, exs_next x2, exs_ret x3]
  show trimR 1 (.bl true) h' = _
  unfold trimR
  split
  · rfl
  · split <;> rfl
end Dn

set_option Elab.async false
set_option linter.all false
set_option maxRecDepth 100000
set_option maxHeartbeats 4000000
/-! what changes no heap does the same over each heap -/
namespace Dn
open PySem L2

theorem belowDs_iff {n : Nat} : ∀ {xs : List Dv}, belowDs n xs = true ↔ ∀ x ∈ xs, belowD n x = true
  | [] => by simp [belowDs]
  | x :: xs => by simp [belowDs, belowDs_iff (xs := xs)]
/-- it needs no heap, and leaves it -/
def Pu {t : Type} (r : Hc → Res t) (P : t → Prop) : Prop := ∀ x g, r [] = .ok x g → g = [] ∧ P x ∧ ∀ h, r h = .ok x h
def Nl (d : Dv) : Prop := belowD 0 d = true
def Nls (ds : List Dv) : Prop := ∀ d ∈ ds, Nl d
def NlE (s : Env1) : Prop := ∀ d, some d ∈ s → Nl d
section
variable {t u : Type} {P : t → Prop} {Q : u → Prop}
theorem Pu.ok {x : t} (p : P x) : Pu (fun h => .ok x h) P := fun y g e => by
  cases e
  exact ⟨rfl, p, fun _ => rfl⟩
theorem Pu.bad : Pu (fun _ => (.bad : Res t)) P := fun y g e => by cases e
theorem Pu.bind {r : Hc → Res t} {k : t → Hc → Res u} (a : Pu r P) (b : ∀ x, P x → Pu (k x) Q) : Pu (fun h => (r h).bind k) Q := fun y g e => by
  cases q : r [] with
  | ok x g1 =>
    have e' : (r []).bind k = .ok y g := e
    rw [q, Res.bind_ok] at e'
    obtain ⟨rfl, p, a'⟩ := a x g1 q
    obtain ⟨e1, e2, e3⟩ := b x p y g e'
    exact ⟨e1, e2, fun h => by show (r h).bind k = _; rw [a' h, Res.bind_ok]; exact e3 h⟩
  | exc _ _ =>
    have e' : (r []).bind k = .ok y g := e
    rw [q] at e'; cases e'
  | bad =>
    have e' : (r []).bind k = .ok y g := e
    rw [q] at e'; cases e'
theorem Pu.imp {P' : t → Prop} {r : Hc → Res t} (a : Pu r P) (f : ∀ x, P x → P' x) : Pu r P' := fun x g e => by
  obtain ⟨e1, e2, e3⟩ := a x g e
  exact ⟨e1, f x e2, e3⟩
theorem Pu.ite {c : Prop} [Decidable c] {r q : Hc → Res t} (a : Pu r P) (b : Pu q P) : Pu (fun h => if c then r h else q h) P := by
  by_cases z : c
  · simp only [z, if_true]; exact a
  · simp only [z, if_false]; exact b
theorem Pu.ifb {c : Prop} [Decidable c] {x : t} (a : c → P x) : Pu (fun h => if c then .ok x h else .bad) P := by
  by_cases z : c
  · simp only [z, if_true]; exact .ok (a z)
  · simp only [z, if_false]; exact .bad
theorem Pu.congr {r q : Hc → Res t} (e : ∀ h, r h = q h) (a : Pu q P) : Pu r P := by
  have : r = q := funext e
  rw [this]
  exact a
theorem Pu.calm {r : Hc → Res t} (a : Pu r P) : Pu (fun h => (r h).calm) P := fun x g e => by
  cases q : r [] with
  | ok y g1 =>
    have e' : (r []).calm = .ok x g := e
    rw [q, Res.calm_ok] at e'
    cases e'
    obtain ⟨e1, e2, e3⟩ := a _ _ q
    exact ⟨e1, e2, fun h => by show (r h).calm = _; rw [e3 h]; rfl⟩
  | exc _ _ =>
    have e' : (r []).calm = .ok x g := e
    rw [q] at e'; cases e'
  | bad =>
    have e' : (r []).calm = .ok x g := e
    rw [q] at e'; cases e'
end

/-! ### primitives -/
theorem Nl.loc {n : Nat} (h : Nl (.loc n)) : False := by simp [Nl, belowD] at h
theorem Nl.lst {xs : List Dv} (h : Nl (.lst xs)) : Nls xs := fun d hd => belowDs_iff.mp (by simpa only [Nl, belowD] using h) d hd
theorem Nl.tup {xs : List Dv} (h : Nl (.tup xs)) : Nls xs := fun d hd => belowDs_iff.mp (by simpa only [Nl, belowD] using h) d hd
theorem Nls.lst {xs : List Dv} (h : Nls xs) : Nl (.lst xs) := by
  show belowD 0 (.lst xs) = true
  simp only [belowD]
  exact belowDs_iff.mpr h
theorem Nls.tup {xs : List Dv} (h : Nls xs) : Nl (.tup xs) := by
  show belowD 0 (.tup xs) = true
  simp only [belowD]
  exact belowDs_iff.mpr h
theorem Nls.app {xs ys : List Dv} (a : Nls xs) (b : Nls ys) : Nls (xs ++ ys) := fun d hd => by
  rcases List.mem_append.mp hd with hd | hd
  · exact a d hd
  · exact b d hd
theorem lstOf_nl {x : Dv} (n : Nl x) (h : Hc) : lstOf h x = lstOf [] x := by
  cases x with
  | loc k => exact n.loc.elim
  | _ => rfl
theorem lstOwn_nl {x : Dv} (n : Nl x) (h : Hc) : lstOwn h x = lstOwn [] x := by
  cases x with
  | loc k => exact n.loc.elim
  | _ => rfl
theorem lstStill_nl {x : Dv} (n : Nl x) (h : Hc) : lstStill h x = lstStill [] x := by
  cases x with
  | loc k => exact n.loc.elim
  | _ => rfl
theorem lstOf_Nls {x : Dv} {xs : List Dv} (n : Nl x) (e : lstOf [] x = some xs) : Nls xs := by
  cases x with
  | lst ys => cases e; exact n.lst
  | loc k => exact n.loc.elim
  | _ => cases e
theorem lstOwn_Nls {x : Dv} {xs : List Dv} (n : Nl x) (e : lstOwn [] x = some xs) : Nls xs := by
  cases x with
  | lst ys => cases e; exact n.lst
  | loc k => exact n.loc.elim
  | _ => cases e
theorem lstStill_Nls {x : Dv} {xs : List Dv} (n : Nl x) (e : lstStill [] x = some xs) : Nls xs := by
  cases x with
  | lst ys => cases e; exact n.lst
  | loc k => exact n.loc.elim
  | _ => cases e
theorem plainD_nl {x : Dv} (n : Nl x) (h : Hc) : plainD h x = x := by
  cases x with
  | loc k => exact n.loc.elim
  | _ => rfl
theorem Nls.rep {xs : List Dv} (a : Nls xs) (n : Nat) : Nls (List.replicate n xs).flatten := fun d hd => by
  obtain ⟨l, hl, hd⟩ := List.mem_flatten.mp hd
  rw [List.eq_of_mem_replicate hl] at hd
  exact a d hd
theorem pu_bin {op : BOp} (ho : op ≠ .addN ∧ op ≠ .mulN) {x y : Dv} (nx : Nl x) (ny : Nl y) : Pu (fun h => binD op x y h) Nl := by
  have cat : Pu (fun h => match lstOwn h x, lstOwn h y with
      | some xs, some ys => if SZok (xs.length + ys.length) then .ok (.lst (xs ++ ys)) h else .bad
      | _, _ => .bad) Nl := by
    refine .congr (q := fun h => match lstOwn [] x, lstOwn [] y with
      | some xs, some ys => if SZok (xs.length + ys.length) then .ok (.lst (xs ++ ys)) h else .bad
      | _, _ => .bad) (fun h => by rw [lstOwn_nl nx, lstOwn_nl ny]) ?_
    cases q1 : lstOwn [] x with
    | none => exact .bad
    | some xs =>
      cases q2 : lstOwn [] y with
      | none => exact .bad
      | some ys => exact .ifb fun _ => Nls.lst ((lstOwn_Nls nx q1).app (lstOwn_Nls ny q2))
  have rep : ∀ k : Int, Pu (fun h => match lstOwn h x with
      | some xs => if -(2 ^ 62) ≤ k ∧ k < 2 ^ 62 ∧ xs.length * k.toNat ≤ SZ then .ok (.lst (List.replicate k.toNat xs).flatten) h else .bad
      | none => .bad) Nl := fun k => by
    refine .congr (q := fun h => match lstOwn [] x with
      | some xs => if -(2 ^ 62) ≤ k ∧ k < 2 ^ 62 ∧ xs.length * k.toNat ≤ SZ then .ok (.lst (List.replicate k.toNat xs).flatten) h else .bad
      | none => .bad) (fun h => by rw [lstOwn_nl nx]) ?_
    cases q1 : lstOwn [] x with
    | none => exact .bad
    | some xs => exact .ifb fun _ => Nls.lst ((lstOwn_Nls nx q1).rep _)
  cases op with
  | addN => exact absurd rfl ho.1
  | mulN => exact absurd rfl ho.2
  | add =>
    cases x with
    | int i => cases y with
      | int j => exact .ok rfl
      | loc k => exact ny.loc.elim
      | _ => exact cat
    | str a => cases y with
      | str b => exact .ifb fun _ => rfl
      | loc k => exact ny.loc.elim
      | _ => exact cat
    | tup a => cases y with
      | tup b => exact .ifb fun _ => Nls.tup (nx.tup.app ny.tup)
      | loc k => exact ny.loc.elim
      | _ => exact cat
    | loc k => exact nx.loc.elim
    | _ => cases y <;> exact cat
  | mul =>
    cases y with
    | int k => cases x with
      | int i => exact .ifb fun _ => rfl
      | str a => exact .ifb fun _ => rfl
      | tup a => exact .ifb fun _ => Nls.tup (nx.tup.rep _)
      | loc k => exact nx.loc.elim
      | _ => exact rep k
    | loc k => exact ny.loc.elim
    | _ => cases x <;> exact .bad
  | sub => cases x <;> cases y <;> first | exact .bad | exact .ok rfl
  | fdiv => cases x <;> cases y <;> first | exact .bad | exact .ifb fun _ => rfl
  | mod => cases x <;> cases y <;> first | exact .bad | exact .ifb fun _ => rfl
  | pow => cases x <;> cases y <;> first | exact .bad | exact .ifb fun _ => rfl
theorem pu_cmp {op : COp} {x y : Dv} (nx : Nl x) (ny : Nl y) : Pu (fun h => cmpD op x y h) Nl := by
  have eq1 : ∀ f : Bool → Bool, Pu (fun h => if shapeB (plainD h x) && shapeB (plainD h y) then .ok (.bl (f (eqD (plainD h x) (plainD h y)))) h else .bad) Nl := fun f => by
    refine .congr (q := fun h => if shapeB x && shapeB y then .ok (.bl (f (eqD x y))) h else .bad) (fun h => by rw [plainD_nl nx, plainD_nl ny]) ?_
    exact .ifb fun _ => rfl
  have in1 : ∀ f : Bool → Bool, Pu (fun h => match lstOf h y with
    | some ys => if flatD x && ys.all flatD then .ok (.bl (f (ys.any fun y => eqD y x))) h else .bad
    | none => .bad) Nl := fun f => by
    refine .congr (q := fun h => match lstOf [] y with
      | some ys => if flatD x && ys.all flatD then .ok (.bl (f (ys.any fun y => eqD y x))) h else .bad
      | none => .bad) (fun h => by rw [lstOf_nl ny]) ?_
    cases lstOf [] y with
    | none => exact .bad
    | some ys => exact .ifb fun _ => rfl
  have tup1 : ∀ (ys : List Dv) (f : Bool → Bool), Pu (fun h => if flatD x && ys.all flatD then .ok (.bl (f (ys.any fun y => eqD y x))) h else .bad) Nl := fun ys f => .ifb fun _ => rfl
  cases op with
  | lt => cases x <;> cases y <;> first | exact .bad | exact .ok rfl
  | le => cases x <;> cases y <;> first | exact .bad | exact .ok rfl
  | gt => cases x <;> cases y <;> first | exact .bad | exact .ok rfl
  | ge => cases x <;> cases y <;> first | exact .bad | exact .ok rfl
  | eq => exact eq1 id
  | ne => exact eq1 not
  | inn =>
    cases y with
    | loc k => exact ny.loc.elim
    | tup ys => cases x <;> first | exact nx.loc.elim | exact tup1 ys id | exact tup1 ys not
    | str b => cases x <;> first | exact nx.loc.elim | exact .ok rfl | exact .bad
    | _ => cases x <;> first | exact nx.loc.elim | exact in1 id
  | nin =>
    cases y with
    | loc k => exact ny.loc.elim
    | tup ys => cases x <;> first | exact nx.loc.elim | exact tup1 ys id | exact tup1 ys not
    | str b => cases x <;> first | exact nx.loc.elim | exact .ok rfl | exact .bad
    | _ => cases x <;> first | exact nx.loc.elim | exact in1 not
theorem pu_neg {x : Dv} (nx : Nl x) : Pu (fun h => negD x h) Nl := by
  cases x <;> first | exact .bad | exact .ok rfl
theorem atI_mem {t : Type} {xs : List t} {i : Int} {x : t} (e : atI xs i = some x) : x ∈ xs := by
  unfold atI at e
  cases q : ixN xs.length i with
  | none => rw [q] at e; cases e
  | some j => rw [q] at e; exact List.mem_of_getElem? e
theorem pu_at {xs : List Dv} (n : Nls xs) (i : Int) : Pu (fun h => match atD xs i with
    | some c => .ok c h
    | none => .bad) Nl := by
  cases q : atD xs i with
  | none => exact .bad
  | some c => exact .ok (n c (atI_mem q))
theorem pu_idx {x i : Dv} (nx : Nl x) : Pu (fun h => idxD x i h) Nl := by
  cases i with
  | int i =>
    cases x with
    | loc k => exact nx.loc.elim
    | str s =>
      show Pu (fun h => match atD s i with | some c => .ok (.str [c]) h | none => .bad) Nl
      cases atD s i with
      | none => exact .bad
      | some c => exact .ok rfl
    | tup xs => exact pu_at nx.tup i
    | lst xs => exact pu_at nx.lst i
    | _ => exact .bad
  | _ => cases x <;> first | exact nx.loc.elim | exact .bad
theorem cut_mem {xs : List Dv} {lo hi : Option Int} (n : Nls xs) : Nls (cutD xs lo hi) := fun d hd => n d (List.mem_of_mem_drop (List.mem_of_mem_take hd))
theorem pu_sl {x : Dv} {lo hi : Option Int} (nx : Nl x) : Pu (fun h => slD x lo hi h) Nl := by
  cases x with
  | loc k => exact nx.loc.elim
  | str s => exact .ok rfl
  | tup xs => exact .ok (cut_mem nx.tup).tup
  | lst xs => exact .ok (cut_mem nx.lst).lst
  | _ => exact .bad
theorem pu_rev {x : Dv} (nx : Nl x) : Pu (fun h => revD x h) Nl := by
  cases x with
  | loc k => exact nx.loc.elim
  | str s => exact .ok rfl
  | lst xs => exact .ok (Nls.lst fun d hd => nx.lst d (List.mem_reverse.mp hd))
  | _ => exact .bad
theorem Nls.ints (ns : List Int) : Nls (ns.map .int) := fun d hd => by
  obtain ⟨i, _, rfl⟩ := List.mem_map.mp hd
  rfl
theorem Nls.strs (ns : List (List Nat)) : Nls (ns.map .str) := fun d hd => by
  obtain ⟨i, _, rfl⟩ := List.mem_map.mp hd
  rfl
theorem Nls.signs (ns : List Nat) : Nls (ns.map fun c => .str [c]) := fun d hd => by
  obtain ⟨i, _, rfl⟩ := List.mem_map.mp hd
  rfl
theorem pu_opt {t : Type} {P : Dv → Prop} {o : Option t} {k : t → Hc → Res Dv} (a : ∀ x, o = some x → Pu (k x) P) : Pu (fun h => match o with
    | some x => k x h
    | none => .bad) P := by
  cases o with
  | none => exact .bad
  | some x => exact a x rfl
theorem isTy_nl {x : Dv} (nx : Nl x) (t : Ty) (h : Hc) : isTy h t x = isTy [] t x := by
  cases x with
  | loc k => exact nx.loc.elim
  | _ => cases t <;> rfl
theorem lenD_nl {x : Dv} (nx : Nl x) (h : Hc) : lenD h x = lenD [] x := by
  cases x with
  | loc k => exact nx.loc.elim
  | _ => rfl
theorem pu_bi {f : BI} (hf : f ≠ .listN) {vs : List Dv} (nv : Nls vs) : Pu (fun h => biD f vs h) Nl := by
  cases vs with
  | nil => cases f <;> exact .bad
  | cons x r =>
    cases r with
    | cons y r => cases f <;> (cases x <;> exact .bad)
    | nil =>
      have nx : Nl x := nv x (by simp)
      have e1 := fun h => lstOf_nl nx h
      cases f with
      | listN => exact absurd rfl hf
      | len =>
        refine .congr (q := fun h => match lenD [] x with | some n => .ok (.int n) h | none => .bad) (fun h => by simp only [biD]; rw [lenD_nl nx]; try rfl) ?_
        cases lenD [] x with
        | none => exact .bad
        | some n => exact .ok rfl
      | abs => cases x <;> first | exact .bad | exact .ok rfl
      | int => cases x <;> first | exact .bad | exact .ok rfl
      | all =>
        refine .congr (q := fun h => match (lstOf [] x).bind blsOf with | some bs => .ok (.bl (bs.all id)) h | none => .bad) (fun h => by simp only [biD]; rw [e1]; try rfl) ?_
        cases (lstOf [] x).bind blsOf with
        | none => exact .bad
        | some n => exact .ok rfl
      | any =>
        refine .congr (q := fun h => match (lstOf [] x).bind blsOf with | some bs => .ok (.bl (bs.any id)) h | none => .bad) (fun h => by simp only [biD]; rw [e1]; try rfl) ?_
        cases (lstOf [] x).bind blsOf with
        | none => exact .bad
        | some n => exact .ok rfl
      | isi t =>
        refine .congr (q := fun h => match isTy [] t x with | some b => .ok (.bl b) h | none => .bad) (fun h => by simp only [biD]; rw [isTy_nl nx]; try rfl) ?_
        cases isTy [] t x with
        | none => exact .bad
        | some n => exact .ok rfl
      | isi2 t u =>
        refine .congr (q := fun h => match isTy [] t x, isTy [] u x with | some b, some c => .ok (.bl (b || c)) h | _, _ => .bad) (fun h => by simp only [biD]; rw [isTy_nl nx t h, isTy_nl nx u h]; try rfl) ?_
        cases isTy [] t x with
        | none => exact .bad
        | some n =>
          cases isTy [] u x with
          | none => exact .bad
          | some m => exact .ok rfl
      | list =>
        cases x with
        | loc k => exact nx.loc.elim
        | str s => exact .ok (Nls.lst (Nls.signs s))
        | tup xs => exact .ok nx.tup.lst
        | lst xs => exact .ok nx
        | _ => exact .bad
      | tuple =>
        cases x with
        | loc k => exact nx.loc.elim
        | tup xs => exact .ok nx
        | lst xs => exact .ok nx.lst.tup
        | _ => exact .bad
      | sorted =>
        cases x with
        | loc k => exact nx.loc.elim
        | lst xs =>
          show Pu (fun h => match intsOf xs, strsOf xs with
            | some ns, _ => .ok (.lst ((sortI ns).map .int)) h
            | _, some ss => if ss.length < 64 then .ok (.lst ((sortS ss).map .str)) h else .bad
            | _, _ => .bad) Nl
          cases intsOf xs with
          | some ns => exact .ok (Nls.lst (Nls.ints _))
          | none =>
            cases strsOf xs with
            | some ss => exact .ifb fun _ => Nls.lst (Nls.strs _)
            | none => exact .bad
        | _ => exact .bad
      | sset =>
        cases x with
        | loc k => exact nx.loc.elim
        | str s => exact .ifb fun _ => Nls.lst (Nls.signs _)
        | _ => exact .bad
      | lset =>
        cases x with
        | loc k => exact nx.loc.elim
        | str s => exact .ifb fun _ => rfl
        | _ => exact .bad
      | sum =>
        refine .congr (q := fun h => match (lstOf [] x).bind intsOf with | some bs => .ok (.int bs.sum) h | none => .bad) (fun h => by simp only [biD]; rw [e1]; try rfl) ?_
        cases (lstOf [] x).bind intsOf with
        | none => exact .bad
        | some n => exact .ok rfl
      | max =>
        refine .congr (q := fun h => match (lstOf [] x).bind intsOf with | some (n :: ns) => .ok (.int (ns.foldl max n)) h | _ => .bad) (fun h => by simp only [biD]; rw [e1]; try rfl) ?_
        cases (lstOf [] x).bind intsOf with
        | none => exact .bad
        | some n => cases n with
          | nil => exact .bad
          | cons n ns => exact .ok rfl
      | min =>
        refine .congr (q := fun h => match (lstOf [] x).bind intsOf with | some (n :: ns) => .ok (.int (ns.foldl min n)) h | _ => .bad) (fun h => by simp only [biD]; rw [e1]; try rfl) ?_
        cases (lstOf [] x).bind intsOf with
        | none => exact .bad
        | some n => cases n with
          | nil => exact .bad
          | cons n ns => exact .ok rfl
theorem pu_truth {x : Dv} (nx : Nl x) : Pu (fun h => truthR x h) (fun _ => True) := by
  cases x with
  | loc k => exact nx.loc.elim
  | _ => exact .ok trivial
theorem pu_mt {f : MT} (hf : f = .join ∨ f = .find ∨ f = .rfind) {o : Dv} {vs : List Dv} (no : Nl o) (nv : Nls vs) : Pu (fun h => mtD f o vs h) Nl := by
  have tac : ∀ (s : List Nat) (x : Dv), Nl x → Pu (fun h => mtD .join (.str s) [x] h) Nl := fun s x nx => by
    have fin : ∀ o2 : Option (List (List Nat)), Pu (fun h => match o2 with
      | some ss => if SZok ((ss.map List.length).sum + ss.length * s.length) then .ok (.str (joinS s ss)) h else .bad
      | none => .bad) Nl := fun o2 => by
      cases o2 with
      | none => exact .bad
      | some ss => exact .ifb fun _ => rfl
    cases x with
    | loc k => exact nx.loc.elim
    | tup xs => exact fin (strsOf xs)
    | lst xs => exact fin (strsOf xs)
    | _ => exact .bad
  cases o with
  | str s =>
    cases vs with
    | nil => rcases hf with rfl | rfl | rfl <;> exact .bad
    | cons x r =>
      cases r with
      | nil =>
        have nx : Nl x := nv x (by simp)
        rcases hf with rfl | rfl | rfl
        · exact tac s x nx
        · cases x <;> first | exact .bad | exact .ok rfl
        · cases x <;> first | exact .bad | exact .ok rfl
      | cons y r => rcases hf with rfl | rfl | rfl <;> (cases x <;> exact .bad)
  | _ => rcases hf with rfl | rfl | rfl <;> (cases vs with
    | nil => exact .bad
    | cons x r => cases r <;> cases x <;> exact .bad)
theorem mtOk_pure {f : MT} (hf : f = .join ∨ f = .find ∨ f = .rfind) (o : Dv) (h : Hc) : mtOk f o h = mtOk f o [] := by
  rcases hf with rfl | rfl | rfl <;> cases o <;> rfl
theorem pu_seq {x : Dv} (nx : Nl x) : Pu (fun h => seqD x h) Nls := by
  cases x with
  | loc k => exact nx.loc.elim
  | str s => exact .ok (Nls.signs s)
  | tup xs => exact .ok nx.tup
  | lst xs => exact .ok nx.lst
  | _ => exact .bad
theorem rangeL_nl : ∀ (n : Nat) (lo : Int), Nls (rangeL lo n)
  | 0, _ => fun d hd => by cases hd
  | n + 1, lo => fun d hd => by
    rcases List.mem_cons.mp hd with rfl | hd
    · rfl
    · exact rangeL_nl n _ d hd
theorem pu_range (lo hi : Int) : Pu (fun h => rangeD lo hi h) Nls := .ifb fun _ => rangeL_nl _ _
theorem enumL_nl : ∀ (xs : List Dv) (k : Int), Nls xs → Nls (enumL k xs)
  | [], _, _ => fun d hd => by cases hd
  | x :: xs, k, n => fun d hd => by
    rcases List.mem_cons.mp hd with rfl | hd
    · exact Nls.tup fun d hd => by
        rcases List.mem_cons.mp hd with rfl | hd
        · rfl
        · rcases List.mem_singleton.mp hd with rfl
          exact n _ (by simp)
    · exact enumL_nl xs _ (fun d hd => n d (by simp [hd])) d hd
theorem zipL_nl : ∀ (xs ys : List Dv), Nls xs → Nls ys → Nls (zipL xs ys)
  | [], _, _, _ => fun d hd => by simp [zipL] at hd
  | _ :: _, [], _, _ => fun d hd => by simp [zipL] at hd
  | x :: xs, y :: ys, n, m => fun d hd => by
    rw [zipL] at hd
    rcases List.mem_cons.mp hd with rfl | hd
    · exact Nls.tup fun d hd => by
        rcases List.mem_cons.mp hd with rfl | hd
        · exact n _ (by simp)
        · rcases List.mem_singleton.mp hd with rfl
          exact m _ (by simp)
    · exact zipL_nl xs ys (fun d hd => n d (by simp [hd])) (fun d hd => m d (by simp [hd])) d hd
theorem pu_zip {x y : Dv} (nx : Nl x) (ny : Nl y) : Pu (fun h => zipD x y h) Nls := by
  cases x with
  | loc k => exact nx.loc.elim
  | tup xs => cases y with
    | loc k => exact ny.loc.elim
    | tup ys => exact .ok (zipL_nl _ _ nx.tup ny.tup)
    | _ => exact .bad
  | lst xs => cases y with
    | loc k => exact ny.loc.elim
    | lst ys => exact .ok (zipL_nl _ _ nx.lst ny.lst)
    | _ => exact .bad
  | _ => cases y <;> first | exact ny.loc.elim | exact .bad

/-! ### what is pure -/
section
variable (pf : Nat → Bool)
mutual
def pE : ME → Bool
  | .var _ => true
  | .cst d => belowD 0 d
  | .glb _ => true
  | .bin op a b => decide (op ≠ .addN ∧ op ≠ .mulN) && pE a && pE b
  | .cmp _ a b => pE a && pE b
  | .chain _ _ a b c => pE a && pE b && pE c
  | .isn _ a => pE a
  | .neg a => pE a
  | .not a => pE a
  | .bop _ es => pEs es
  | .ite c a b => pE c && pE a && pE b
  | .tup es => pEs es
  | .lst es => pEs es
  | .new _ => false
  | .dnew => false
  | .idx a b => pE a && pE b
  | .sl a lo hi => pE a && pO lo && pO hi
  | .rev a => pE a
  | .bi f es => decide (f ≠ .listN) && pEs es
  | .bi1 f a => decide (f ≠ .listN) && pE a
  | .mt f o es => (decide (f = .join) || decide (f = .find) || decide (f = .rfind)) && pE o && pEs es
  | .call f es ks _ => pf f && pEs es && pEs ks
  | .comp _ _ it cond elt => pI it && pO cond && pE elt
  | .frz _ => false
def pEs : MEs → Bool
  | .nil => true
  | .cons e es => pE e && pEs es
def pO : MO → Bool
  | .none => true
  | .some e => pE e
def pI : MIt → Bool
  | .seq a => pE a
  | .range1 a => pE a
  | .range2 a b => pE a && pE b
  | .enum a => pE a
  | .zip a b => pE a && pE b
end
mutual
def pS : MS → Bool
  | .asg _ m => pE pf m
  | .par _ es => pEs pf es
  | .seti _ _ _ => false
  | .aug _ op m => decide (op ≠ .addN ∧ op ≠ .mulN) && pE pf m
  | .expr m => pE pf m
  | .ret m => pE pf m
  | .retn => true
  | .ite c a b => pE pf c && pSs a && pSs b
  | .forr _ it body => pI pf it && pSs body
  | .whil _ c body => pE pf c && pSs body
  | .pass => true
  | .brk => true
  | .cont => true
  | .never => true
def pSs : MSs → Bool
  | .nil => true
  | .cons s ss => pS s && pSs ss
end
end
def FlP : Fl → Prop
  | .next s => NlE s
  | .brk s => NlE s
  | .cont s => NlE s
  | .ret v => Nl v
theorem NlE.set {s : Env1} {i : Nat} {o : Option Dv} (n : NlE s) (h : ∀ d, o = some d → Nl d) : NlE (s.set i o) := fun d hd => by
  rcases List.mem_or_eq_of_mem_set hd with hd | hd
  · exact n d hd
  · exact h d hd.symm
theorem NlE.wipe {s : Env1} (n : NlE s) : ∀ vs : List Nat, NlE (wipeD s vs)
  | [] => n
  | v :: vs => (NlE.wipe n vs).set fun d h => by cases h
theorem NlE.sets {s : Env1} (n : NlE s) : ∀ {js : List Nat} {xs : List Dv}, Nls xs → NlE ((js.zip xs).foldl (fun s p => s.set p.1 (some p.2)) s)
  | [], _, _ => by simpa using n
  | _ :: _, [], _ => by simpa using n
  | j :: js, x :: xs, h => NlE.sets (s := s.set j (some x)) (n.set fun d e => by cases e; exact h _ (by simp)) (fun d hd => h d (by simp [hd]))
theorem tg_nl {t : Tg} {x : Dv} {s s' : Env1} (n : NlE s) (nx : Nl x) (e : tgD t x s = some s') : NlE s' := by
  cases t with
  | name i =>
    rw [tg_name] at e
    cases e
    exact n.set fun d h => by cases h; exact nx
  | tup js =>
    cases x with
    | tup xs =>
      simp only [tgD] at e
      split at e
      · cases e; exact n.sets nx.tup
      · cases e
    | lst xs =>
      simp only [tgD] at e
      split at e
      · cases e; exact n.sets nx.lst
      · cases e
    | _ => cases e
section
variable {pf : Nat → Bool} {cl : Nat → List Dv → Hc → Res Dv} {gl : List Dv}
def PuCl (pf : Nat → Bool) (cl : Nat → List Dv → Hc → Res Dv) : Prop := ∀ f vs, pf f = true → Nls vs → Pu (fun h => cl f vs h) Nl
theorem permD_nl {vs : List Dv} (n : Nls vs) : ∀ {js : List Nat} {zs : List Dv}, permD vs js = some zs → Nls zs
  | [], zs, e => by cases e; exact fun d hd => by cases hd
  | j :: js, zs, e => by
    simp only [permD] at e
    cases q1 : vs[j]? with
    | none => rw [q1] at e; cases e
    | some v =>
      cases q2 : permD vs js with
      | none => rw [q1, q2] at e; cases e
      | some r =>
        rw [q1, q2] at e
        cases e
        intro d hd
        rcases List.mem_cons.mp hd with rfl | hd
        · exact n _ (List.mem_of_getElem? q1)
        · exact permD_nl n q2 d hd
theorem pu_comp {f : Dv → Hc → Res (Option Dv)} (hf : ∀ x, Nl x → Pu (f x) (fun o => ∀ d, o = some d → Nl d)) : ∀ (xs : List Dv), Nls xs → Pu (compL f xs) Nls
  | [], _ => .congr (fun h => by rw [compL]) (.ok fun d hd => by cases hd)
  | x :: xs, n => .congr (fun h => by rw [compL]) (.bind (hf x (n x (by simp))).calm fun y ny => .bind (pu_comp hf xs fun d hd => n d (by simp [hd])) fun ys nys => .ok (by
      cases y with
      | none => exact nys
      | some y =>
        intro d hd
        rcases List.mem_cons.mp hd with rfl | hd
        · exact ny _ rfl
        · exact nys d hd))
theorem pu_for {f : Dv → Env1 → Hc → Res Fl} (hf : ∀ x s, Nl x → NlE s → Pu (f x s) FlP) : ∀ (xs : List Dv) (s : Env1), Nls xs → NlE s → Pu (forL f xs s) FlP
  | [], s, _, ns => .congr (fun h => by rw [forL]) (Pu.ok (x := Fl.next s) ns)
  | x :: xs, s, n, ns => .congr (fun h => by rw [forL]) (.bind (hf x s (n x (by simp)) ns) fun r nr => by
      cases r with
      | next s1 => exact pu_for hf xs s1 (fun d hd => n d (by simp [hd])) nr
      | cont s1 => exact pu_for hf xs s1 (fun d hd => n d (by simp [hd])) nr
      | brk s1 => exact .ok nr
      | ret v => exact .ok nr)
theorem pu_while {c : Env1 → Hc → Res Bool} {f : Env1 → Hc → Res Fl} (hc : ∀ s, NlE s → Pu (c s) (fun _ => True)) (hf : ∀ s, NlE s → Pu (f s) FlP) : ∀ (n : Nat) (s : Env1), NlE s → Pu (whileL c f n s) FlP
  | 0, s, _ => .congr (fun h => by rw [whileL]) .bad
  | n + 1, s, ns => .congr (fun h => by rw [whileL]) (.bind (hc s ns) fun b _ => by
      cases b with
      | false => exact .congr (fun h => by rw [if_neg Bool.false_ne_true]) (Pu.ok (x := Fl.next s) ns)
      | true =>
        refine .congr (fun h => by rw [if_pos rfl]) (.bind (hf s ns) fun r nr => ?_)
        cases r with
        | next s1 => exact pu_while hc hf n s1 nr
        | cont s1 => exact pu_while hc hf n s1 nr
        | brk s1 => exact .ok nr
        | ret v => exact .ok nr)
end
section
variable {pf : Nat → Bool} {cl : Nat → List Dv → Hc → Res Dv} {gl : List Dv} (hcl : PuCl pf cl) (hgl : Nls gl)
include hcl hgl
mutual
theorem puE : ∀ (m : ME) (s : Env1), pE pf m = true → NlE s → Pu (ev cl gl m s) Nl
  | .var i, s, hp, ns => by
    cases q : s[i]? with
    | none => exact .congr (fun h => by rw [ev, q]) .bad
    | some o =>
      cases o with
      | none => exact .congr (fun h => by rw [ev, q]) .bad
      | some d => exact .congr (fun h => by rw [ev, q]) (.ok (ns d (List.mem_of_getElem? q)))
  | .cst d, s, hp, ns => .congr (fun h => by rw [ev]) (.ok (by simp only [pE] at hp; exact hp))
  | .glb j, s, hp, ns => by
    cases q : gl[j]? with
    | none => exact .congr (fun h => by rw [ev, q]) .bad
    | some d => exact .congr (fun h => by rw [ev, q]) (.ok (hgl d (List.mem_of_getElem? q)))
  | .bin op a b, s, hp, ns => by
    simp only [pE, Bool.and_eq_true, decide_eq_true_eq] at hp
    exact .congr (fun h => by rw [ev]) (.bind (puE a s hp.1.2 ns) fun x nx => .bind (puE b s hp.2 ns) fun y ny => pu_bin hp.1.1 nx ny)
  | .cmp op a b, s, hp, ns => by
    simp only [pE, Bool.and_eq_true] at hp
    exact .congr (fun h => by rw [ev]) (.bind (puE a s hp.1 ns) fun x nx => .bind (puE b s hp.2 ns) fun y ny => pu_cmp nx ny)
  | .chain p q a b c, s, hp, ns => by
    simp only [pE, Bool.and_eq_true] at hp
    refine .congr (fun h => by rw [ev]) (.bind (puE a s hp.1.1 ns) fun x nx => .bind (puE b s hp.1.2 ns) fun y ny => .bind (pu_cmp nx ny) fun z nz => ?_)
    cases z with
    | bl z =>
      cases z with
      | true => exact .bind (puE c s hp.2 ns) fun w nw => pu_cmp ny nw
      | false => exact .ok rfl
    | _ => exact .bad
  | .isn pos a, s, hp, ns => by
    simp only [pE] at hp
    exact .congr (fun h => by rw [ev]) (.bind (puE a s hp ns) fun x nx => .ok (x := Dv.bl _) rfl)
  | .neg a, s, hp, ns => by
    simp only [pE] at hp
    exact .congr (fun h => by rw [ev]) (.bind (puE a s hp ns) fun x nx => pu_neg nx)
  | .not a, s, hp, ns => by
    simp only [pE] at hp
    exact .congr (fun h => by rw [ev]) (.bind (puE a s hp ns) fun x nx => .bind (pu_truth nx) fun b _ => .ok (x := Dv.bl _) rfl)
  | .bop conj es, s, hp, ns => by
    simp only [pE] at hp
    exact .congr (fun h => by rw [ev]) (puB es conj s hp ns)
  | .ite c a b, s, hp, ns => by
    simp only [pE, Bool.and_eq_true] at hp
    exact .congr (fun h => by rw [ev]) (.bind (puE c s hp.1.1 ns) fun x nx => .bind (pu_truth nx) fun t _ => .ite (puE a s hp.1.2 ns) (puE b s hp.2 ns))
  | .tup es, s, hp, ns => by
    simp only [pE] at hp
    exact .congr (fun h => by rw [ev]) (.bind (puEs es s hp ns) fun vs nv => .ifb fun _ => nv.tup)
  | .lst es, s, hp, ns => by
    simp only [pE] at hp
    exact .congr (fun h => by rw [ev]) (.bind (puEs es s hp ns) fun vs nv => .ifb fun _ => nv.lst)
  | .new es, s, hp, ns => by simp [pE] at hp
  | .dnew, s, hp, ns => by simp [pE] at hp
  | .idx a b, s, hp, ns => by
    simp only [pE, Bool.and_eq_true] at hp
    exact .congr (fun h => by rw [ev]) (.bind (puE a s hp.1 ns) fun x nx => .bind (puE b s hp.2 ns) fun y ny => pu_idx nx)
  | .sl a lo hi, s, hp, ns => by
    simp only [pE, Bool.and_eq_true] at hp
    exact .congr (fun h => by rw [ev]) (.bind (puE a s hp.1.1 ns) fun x nx => .bind (puO lo s hp.1.2 ns) fun l _ => .bind (puO hi s hp.2 ns) fun u _ => pu_sl nx)
  | .rev a, s, hp, ns => by
    simp only [pE] at hp
    exact .congr (fun h => by rw [ev]) (.bind (puE a s hp ns) fun x nx => pu_rev nx)
  | .bi f es, s, hp, ns => by
    simp only [pE, Bool.and_eq_true, decide_eq_true_eq] at hp
    exact .congr (fun h => by rw [ev]) (.bind (puEs es s hp.2 ns) fun vs nv => pu_bi hp.1 nv)
  | .bi1 f a, s, hp, ns => by
    simp only [pE, Bool.and_eq_true, decide_eq_true_eq] at hp
    exact .congr (fun h => by rw [ev]) (.bind (puE a s hp.2 ns) fun x nx => pu_bi hp.1 fun d hd => by
      rcases List.mem_singleton.mp hd with rfl
      exact nx)
  | .mt f o es, s, hp, ns => by
    simp only [pE, Bool.and_eq_true, Bool.or_eq_true, decide_eq_true_eq] at hp
    have hf : f = .join ∨ f = .find ∨ f = .rfind := by
      rcases hp.1.1 with (z | z) | z
      · exact .inl z
      · exact .inr (.inl z)
      · exact .inr (.inr z)
    refine .congr (fun h => by rw [ev]) (.bind (puE o s hp.1.2 ns) fun x nx => ?_)
    refine .congr (fun h => by rw [mtOk_pure hf x h]) (.ite (.bind (puEs es s hp.2 ns) fun vs nv => pu_mt hf nx nv) .bad)
  | .call f es ks perm, s, hp, ns => by
    simp only [pE, Bool.and_eq_true] at hp
    refine .congr (fun h => by rw [ev]) (.bind (puEs es s hp.1.2 ns) fun vs nv => .bind (puEs ks s hp.2 ns) fun ws nw => ?_)
    cases q : permD (vs ++ ws) perm with
    | none => exact .bad
    | some zs => exact hcl f zs hp.1.1 (permD_nl (nv.app nw) q)
  | .comp tg vs it cond elt, s, hp, ns => by
    simp only [pE, Bool.and_eq_true] at hp
    refine .congr (fun h => by rw [ev_comp]) (.bind (puI it s hp.1.1 ns) fun items ni => .bind (pu_comp (fun x nx => ?_) items ni) fun ys ny => .ifb fun _ => ny.lst)
    unfold compF
    cases q : tgD tg x (wipeD s vs) with
    | none => exact .bad
    | some s1 =>
      have ns1 := tg_nl (ns.wipe vs) nx q
      refine .bind (puC cond s1 hp.1.2 ns1) fun b _ => .ite (.bind (puE elt s1 hp.2 ns1) fun y ny => .ok fun d e => by cases e; exact ny) (.ok fun d e => by cases e)
  | .frz a, s, hp, ns => by simp [pE] at hp
theorem puEs : ∀ (ms : MEs) (s : Env1), pEs pf ms = true → NlE s → Pu (evs cl gl ms s) Nls
  | .nil, s, hp, ns => .congr (fun h => by rw [evs]) (.ok fun d hd => by cases hd)
  | .cons e es, s, hp, ns => by
    simp only [pEs, Bool.and_eq_true] at hp
    exact .congr (fun h => by rw [evs]) (.bind (puE e s hp.1 ns) fun x nx => .bind (puEs es s hp.2 ns) fun xs nxs => .ok fun d hd => by
      rcases List.mem_cons.mp hd with rfl | hd
      · exact nx
      · exact nxs d hd)
theorem puB : ∀ (ms : MEs) (conj : Bool) (s : Env1), pEs pf ms = true → NlE s → Pu (evB cl gl conj ms s) Nl
  | .nil, conj, s, hp, ns => .congr (fun h => by rw [evB]) .bad
  | .cons e .nil, conj, s, hp, ns => by
    simp only [pEs, Bool.and_eq_true] at hp
    exact .congr (fun h => by rw [evB]) (puE e s hp.1 ns)
  | .cons e (.cons e2 es), conj, s, hp, ns => by
    simp only [pEs, Bool.and_eq_true] at hp
    have hp2 : pEs pf (.cons e2 es) = true := by simp only [pEs, Bool.and_eq_true]; exact hp.2
    exact .congr (fun h => by rw [evB]) (.bind (puE e s hp.1 ns) fun x nx => .bind (pu_truth nx) fun b _ => .ite (puB (.cons e2 es) conj s hp2 ns) (.ok nx))
theorem puO : ∀ (m : MO) (s : Env1), pO pf m = true → NlE s → Pu (evO cl gl m s) (fun _ => True)
  | .none, s, hp, ns => .congr (fun h => by rw [evO]) (.ok trivial)
  | .some e, s, hp, ns => by
    simp only [pO] at hp
    refine .congr (fun h => by rw [evO]) (.bind (puE e s hp ns) fun x nx => ?_)
    cases x <;> first | exact .bad | exact .ok trivial
theorem puC : ∀ (m : MO) (s : Env1), pO pf m = true → NlE s → Pu (evC cl gl m s) (fun _ => True)
  | .none, s, hp, ns => .congr (fun h => by rw [evC]) (.ok trivial)
  | .some e, s, hp, ns => by
    simp only [pO] at hp
    exact .congr (fun h => by rw [evC]) (.bind (puE e s hp ns) fun x nx => pu_truth nx)
theorem puI : ∀ (m : MIt) (s : Env1), pI pf m = true → NlE s → Pu (evI cl gl m s) Nls
  | .seq a, s, hp, ns => by
    simp only [pI] at hp
    exact .congr (fun h => by rw [evI]) (.bind (puE a s hp ns) fun x nx => pu_seq nx)
  | .range1 a, s, hp, ns => by
    simp only [pI] at hp
    refine .congr (fun h => by rw [evI]) (.bind (puE a s hp ns) fun x nx => ?_)
    cases x <;> first | exact pu_range _ _ | exact .bad
  | .range2 a b, s, hp, ns => by
    simp only [pI, Bool.and_eq_true] at hp
    refine .congr (fun h => by rw [evI]) (.bind (puE a s hp.1 ns) fun x nx => .bind (puE b s hp.2 ns) fun y ny => ?_)
    cases x <;> cases y <;> first | exact pu_range _ _ | exact .bad
  | .enum a, s, hp, ns => by
    simp only [pI] at hp
    refine .congr (fun h => by rw [evI]) (.bind (puE a s hp ns) fun x nx => ?_)
    have e1 : ∀ h, enumD x h = enumD x [] := fun h => by
      cases x with
      | loc k => exact nx.loc.elim
      | _ => rfl
    have e2 : ∀ xs, enumD x [] = some xs → Nls xs := fun xs q => by
      cases x with
      | loc k => exact nx.loc.elim
      | str l => cases q; exact Nls.signs l
      | lst ys => cases q; exact nx.lst
      | _ => cases q
    refine .congr (q := fun h => match enumD x [] with | some xs => .ok (enumL 0 xs) h | none => .bad) (fun h => by show (match enumD x h with | some xs => Res.ok (enumL 0 xs) h | none => .bad) = _; rw [e1 h]) ?_
    cases q : enumD x [] with
    | none => exact .bad
    | some xs => exact .ok (enumL_nl _ _ (e2 xs q))
  | .zip a b, s, hp, ns => by
    simp only [pI, Bool.and_eq_true] at hp
    exact .congr (fun h => by rw [evI]) (.bind (puE a s hp.1 ns) fun x nx => .bind (puE b s hp.2 ns) fun y ny => pu_zip nx ny)
end
mutual
theorem puS : ∀ (m : MS) (s : Env1), pS pf m = true → NlE s → Pu (ex cl gl m s) FlP
  | .asg t m, s, hp, ns => by
    simp only [pS] at hp
    refine .congr (fun h => by rw [ex]) (.bind (puE hcl hgl m s hp ns) fun x nx => ?_)
    cases q : tgD t x s with
    | none => exact .bad
    | some s1 => exact .ok (x := Fl.next s1) (tg_nl ns nx q)
  | .par js es, s, hp, ns => by
    simp only [pS] at hp
    exact .congr (fun h => by rw [ex]) (.bind (puEs hcl hgl es s hp ns) fun vs nv => .ifb (x := Fl.next _) fun _ => ns.sets nv)
  | .seti _ _ _, s, hp, ns => by simp [pS] at hp
  | .aug i op m, s, hp, ns => by
    simp only [pS, Bool.and_eq_true, decide_eq_true_eq] at hp
    cases q : s[i]? with
    | none => exact .congr (fun h => by rw [ex, q]) .bad
    | some o =>
      cases o with
      | none => exact .congr (fun h => by rw [ex, q]) .bad
      | some d =>
        refine .congr (fun h => by rw [ex, q]) (.ite (.bind (puE hcl hgl m s hp.2 ns) fun y ny => .bind (pu_bin hp.1 (ns d (List.mem_of_getElem? q)) ny) fun z nz => .ok (x := Fl.next _) (ns.set fun d e => by cases e; exact nz)) .bad)
  | .expr m, s, hp, ns => by
    simp only [pS] at hp
    exact .congr (fun h => by rw [ex]) (.bind (puE hcl hgl m s hp ns) fun x nx => .ok (x := Fl.next s) ns)
  | .ret m, s, hp, ns => by
    simp only [pS] at hp
    exact .congr (fun h => by rw [ex]) (.bind (puE hcl hgl m s hp ns) fun x nx => .ok (x := Fl.ret x) nx)
  | .retn, s, hp, ns => .congr (fun h => by rw [ex]) (.ok (x := Fl.ret .non) rfl)
  | .ite c a b, s, hp, ns => by
    simp only [pS, Bool.and_eq_true] at hp
    exact .congr (fun h => by rw [ex]) (.bind (puE hcl hgl c s hp.1.1 ns) fun x nx => .bind (pu_truth nx) fun t _ => .ite (puSs a s hp.1.2 ns) (puSs b s hp.2 ns))
  | .forr t it body, s, hp, ns => by
    simp only [pS, Bool.and_eq_true] at hp
    refine .congr (fun h => by rw [ex_forr]) (.bind (puI hcl hgl it s hp.1 ns) fun items ni => pu_for (fun x s1 nx ns1 => ?_) items s ni ns)
    unfold bodyF
    cases q : tgD t x s1 with
    | none => exact .bad
    | some s2 => exact puSs body s2 hp.2 (tg_nl ns1 nx q)
  | .whil fuel c body, s, hp, ns => by
    simp only [pS, Bool.and_eq_true] at hp
    exact .congr (fun h => by rw [ex]) (pu_while (fun s1 ns1 => .bind (puE hcl hgl c s1 hp.1 ns1) fun x nx => pu_truth nx) (fun s1 ns1 => puSs body s1 hp.2 ns1) fuel s ns)
  | .pass, s, hp, ns => .congr (fun h => by rw [ex]) (.ok (x := Fl.next s) ns)
  | .brk, s, hp, ns => .congr (fun h => by rw [ex]) (.ok (x := Fl.brk s) ns)
  | .cont, s, hp, ns => .congr (fun h => by rw [ex]) (.ok (x := Fl.cont s) ns)
  | .never, s, hp, ns => .congr (fun h => by rw [ex]) .bad
theorem puSs : ∀ (ms : MSs) (s : Env1), pSs pf ms = true → NlE s → Pu (exs cl gl ms s) FlP
  | .nil, s, hp, ns => .congr (fun h => by rw [exs]) (.ok (x := Fl.next s) ns)
  | .cons st ss, s, hp, ns => by
    simp only [pSs, Bool.and_eq_true] at hp
    refine .congr (fun h => by rw [exs]) (.bind (puS st s hp.1 ns) fun r nr => ?_)
    cases r with
    | next s1 => exact puSs ss s1 hp.2 nr
    | brk s1 => exact .ok nr
    | cont s1 => exact .ok nr
    | ret v => exact .ok nr
end
end
/-- the defs of pf: pure bodies -/
def pFs (pf : Nat → Bool) (fs : List MFn) : Bool := (List.range fs.length).all fun i => !pf i || (match fs[i]? with
  | some fn => pSs pf fn.body
  | none => true)
theorem pu_call {pf : Nat → Bool} {fs : List MFn} {gl : List Dv} (hp : pFs pf fs = true) (hgl : Nls gl) : ∀ k : Nat, PuCl pf (callF fs gl k)
  | 0 => fun f vs _ _ => .congr (fun h => by rw [callF]) .bad
  | k + 1 => fun f vs hf nv => by
    cases q : fs[f]? with
    | none => exact .congr (q := fun _ => .bad) (fun h => by rw [callF]; simp only [q]) .bad
    | some fn =>
      have hb : pSs pf fn.body = true := by
        have := List.all_eq_true.mp hp f (List.mem_range.mpr (List.getElem?_eq_some_iff.mp q).1)
        rw [hf, q] at this
        simpa using this
      by_cases hl : vs.length = fn.np
      · have ns : NlE (startD fn.nn vs) := fun d hd => by
          rcases List.mem_append.mp hd with hd | hd
          · obtain ⟨e, he, e2⟩ := List.mem_map.mp hd
            cases e2
            exact nv _ he
          · have := List.eq_of_mem_replicate hd
            cases this
        have main := puSs (pu_call hp hgl k) hgl fn.body (startD fn.nn vs) hb ns
        intro x g e
        have e' : callF fs gl (k + 1) f vs [] = .ok x g := e
        rw [callF_in q hl] at e'
        cases q2 : exs (callF fs gl k) gl fn.body (startD fn.nn vs) [] with
        | exc _ _ => rw [q2] at e'; cases e'
        | bad => rw [q2] at e'; cases e'
        | ok r g1 =>
          rw [q2, Res.bind_ok] at e'
          obtain ⟨rfl, nr, m⟩ := main r g1 q2
          have fin : ∀ v, Nl v → endR 0 r [] = trimR 0 v [] → (∀ h, endR h.length r h = trimR h.length v h) → g = [] ∧ Nl x ∧ ∀ h, callF fs gl (k + 1) f vs h = .ok x h := fun v nv2 h1 h2 => by
            have e2 : endR 0 r [] = .ok x g := e'
            rw [h1, trim_len (h1 := []) (n := 0) rfl] at e2
            cases e2
            exact ⟨rfl, nv2, fun h => by rw [callF_in q hl, m h, Res.bind_ok, h2, trim_len rfl]⟩
          cases r with
          | next s1 => exact fin .non rfl rfl fun _ => rfl
          | ret v => exact fin v nr rfl fun _ => rfl
          | brk s1 => cases e'
          | cont s1 => cases e'
      · exact .congr (q := fun _ => .bad) (fun h => by rw [callF]; simp only [q]; rw [if_neg hl]) .bad
/-- THE RULE: run once over no heap, the same over each heap -/
theorem pure_call {pf : Nat → Bool} {fs : List MFn} {gl : List Dv} {k f : Nat} {vs : List Dv} {v : Dv} (hp : pFs pf fs = true) (hgl : belowDs 0 gl = true) (hf : pf f = true) (hv : belowDs 0 vs = true) (e : callF fs gl k f vs [] = .ok v []) (h : Hc) : callF fs gl k f vs h = .ok v h :=
  (pu_call hp (fun d hd => belowDs_iff.mp hgl d hd) k f vs hf (fun d hd => belowDs_iff.mp hv d hd) v [] e).2.2 h
end Dn

set_option Elab.async false
set_option linter.all false
set_option maxRecDepth 100000
set_option maxHeartbeats 2000000
/-! the rules of the small language one by one, for running it on symbols -/
namespace Dn
open PySem L2
section
variable {cl : Nat → List Dv → Hc → Res Dv} {gl : List Dv} {s : Env1} {h : Hc}
def seqF (cl : Nat → List Dv → Hc → Res Dv) (gl : List Dv) (ss : MSs) : Fl → Hc → Res Fl
  | .next s1, h1 => exs cl gl ss s1 h1
  | .ret v, h1 => .ok (.ret v) h1
  | .brk s1, h1 => .ok (.brk s1) h1
  | .cont s1, h1 => .ok (.cont s1) h1
theorem exs_cons (st : MS) (ss : MSs) : exs cl gl (.cons st ss) s h = (ex cl gl st s h).bind (seqF cl gl ss) := by
  rw [exs]; congr 1; funext r h1; cases r <;> rfl
theorem ex_asg (t : Tg) (m : ME) : ex cl gl (.asg t m) s h = (ev cl gl m s h).bind fun x h1 => match tgD t x s with
    | some s1 => .ok (.next s1) h1
    | none => .bad := by rw [ex] <;> rfl
theorem ex_par (js : List Nat) (es : MEs) : ex cl gl (.par js es) s h = (evs cl gl es s h).bind fun vs h1 => if vs.length = js.length then .ok (.next ((js.zip vs).foldl (fun s p => s.set p.1 (some p.2)) s)) h1 else .bad := by rw [ex] <;> rfl
theorem ex_seti (o i v : ME) : ex cl gl (.seti o i v) s h = (ev cl gl v s h).bind fun z h1 => (ev cl gl o s h1).bind fun x h2 => (ev cl gl i s h2).bind fun y h3 => (setD x y z h3).bind fun _ h4 => .ok (.next s) h4 := by rw [ex] <;> rfl
theorem ex_aug (i : Nat) (op : BOp) (m : ME) : ex cl gl (.aug i op m) s h = match s[i]? with
    | some (some x) => if augD op x then (ev cl gl m s h).bind fun y h1 => (binD op x y h1).bind fun z h2 => .ok (.next (s.set i (some z))) h2 else .bad
    | _ => .bad := by rw [ex] <;> rfl
theorem ex_expr (m : ME) : ex cl gl (.expr m) s h = (ev cl gl m s h).bind fun _ h1 => .ok (.next s) h1 := by rw [ex] <;> rfl
theorem ex_ret (m : ME) : ex cl gl (.ret m) s h = (ev cl gl m s h).bind fun x h1 => .ok (.ret x) h1 := by rw [ex] <;> rfl
theorem ex_retn : ex cl gl .retn s h = .ok (.ret .non) h := by rw [ex] <;> rfl
theorem ex_ite (c : ME) (a b : MSs) : ex cl gl (.ite c a b) s h = (ev cl gl c s h).bind fun x h1 => (truthR x h1).bind fun t h2 => if t then exs cl gl a s h2 else exs cl gl b s h2 := by rw [ex] <;> rfl
def condF (cl : Nat → List Dv → Hc → Res Dv) (gl : List Dv) (c : ME) : Env1 → Hc → Res Bool := fun s1 h1 => (ev cl gl c s1 h1).bind fun x h2 => truthR x h2
theorem ex_whil (fuel : Nat) (c : ME) (body : MSs) : ex cl gl (.whil fuel c body) s h = whileL (condF cl gl c) (exs cl gl body) fuel s h := by rw [ex]; rfl
theorem ex_pass : ex cl gl .pass s h = .ok (.next s) h := by rw [ex] <;> rfl
theorem ex_brk : ex cl gl .brk s h = .ok (.brk s) h := by rw [ex] <;> rfl
theorem ex_cont : ex cl gl .cont s h = .ok (.cont s) h := by rw [ex] <;> rfl
theorem ev_var (i : Nat) : ev cl gl (.var i) s h = match s[i]? with
    | some (some d) => .ok d h
    | _ => .bad := by rw [ev] <;> rfl
theorem ev_cst (d : Dv) : ev cl gl (.cst d) s h = .ok d h := by rw [ev] <;> rfl
theorem ev_glb (j : Nat) : ev cl gl (.glb j) s h = match gl[j]? with
    | some d => .ok d h
    | none => .bad := by rw [ev] <;> rfl
theorem ev_bin (op : BOp) (a b : ME) : ev cl gl (.bin op a b) s h = (ev cl gl a s h).bind fun x h1 => (ev cl gl b s h1).bind fun y h2 => binD op x y h2 := by rw [ev] <;> rfl
theorem ev_cmp (op : COp) (a b : ME) : ev cl gl (.cmp op a b) s h = (ev cl gl a s h).bind fun x h1 => (ev cl gl b s h1).bind fun y h2 => cmpD op x y h2 := by rw [ev] <;> rfl
theorem ev_chain (p q : COp) (a b c : ME) : ev cl gl (.chain p q a b c) s h = (ev cl gl a s h).bind fun x h1 => (ev cl gl b s h1).bind fun y h2 => (cmpD p x y h2).bind fun z h3 => match z with
    | .bl true => (ev cl gl c s h3).bind fun w h4 => cmpD q y w h4
    | .bl false => .ok (.bl false) h3
    | _ => .bad := by rw [ev] <;> rfl
theorem ev_isn (pos : Bool) (a : ME) : ev cl gl (.isn pos a) s h = (ev cl gl a s h).bind fun x h1 => .ok (.bl (match x with | .non => pos | _ => !pos)) h1 := by rw [ev] <;> rfl
theorem ev_neg (a : ME) : ev cl gl (.neg a) s h = (ev cl gl a s h).bind fun x h1 => negD x h1 := by rw [ev] <;> rfl
theorem ev_not (a : ME) : ev cl gl (.not a) s h = (ev cl gl a s h).bind fun x h1 => (truthR x h1).bind fun b h2 => .ok (.bl (!b)) h2 := by rw [ev] <;> rfl
theorem ev_bop (conj : Bool) (es : MEs) : ev cl gl (.bop conj es) s h = evB cl gl conj es s h := by rw [ev] <;> rfl
theorem ev_ite (c a b : ME) : ev cl gl (.ite c a b) s h = (ev cl gl c s h).bind fun x h1 => (truthR x h1).bind fun t h2 => if t then ev cl gl a s h2 else ev cl gl b s h2 := by rw [ev] <;> rfl
theorem ev_tup (es : MEs) : ev cl gl (.tup es) s h = (evs cl gl es s h).bind fun vs h1 => if SZok vs.length then .ok (.tup vs) h1 else .bad := by rw [ev] <;> rfl
theorem ev_lst (es : MEs) : ev cl gl (.lst es) s h = (evs cl gl es s h).bind fun vs h1 => if SZok vs.length then .ok (.lst vs) h1 else .bad := by rw [ev] <;> rfl
theorem ev_new (es : MEs) : ev cl gl (.new es) s h = (evs cl gl es s h).bind fun vs h1 => if SZok vs.length then .ok (.loc h1.length) (h1 ++ [.lst vs]) else .bad := by rw [ev] <;> rfl
theorem ev_idx (a b : ME) : ev cl gl (.idx a b) s h = (ev cl gl a s h).bind fun x h1 => (ev cl gl b s h1).bind fun y h2 => idxD x y h2 := by rw [ev] <;> rfl
theorem ev_sl (a : ME) (lo hi : MO) : ev cl gl (.sl a lo hi) s h = (ev cl gl a s h).bind fun x h1 => (evO cl gl lo s h1).bind fun l h2 => (evO cl gl hi s h2).bind fun u h3 => slD x l u h3 := by rw [ev] <;> rfl
theorem ev_rev (a : ME) : ev cl gl (.rev a) s h = (ev cl gl a s h).bind fun x h1 => revD x h1 := by rw [ev] <;> rfl
theorem ev_bi (f : BI) (es : MEs) : ev cl gl (.bi f es) s h = (evs cl gl es s h).bind fun vs h1 => biD f vs h1 := by rw [ev] <;> rfl
theorem ev_bi1 (f : BI) (a : ME) : ev cl gl (.bi1 f a) s h = (ev cl gl a s h).bind fun x h1 => biD f [x] h1 := by rw [ev] <;> rfl
theorem ev_mt (f : MT) (o : ME) (es : MEs) : ev cl gl (.mt f o es) s h = (ev cl gl o s h).bind fun x h1 => if mtOk f x h1 then (evs cl gl es s h1).bind fun vs h2 => mtD f x vs h2 else .bad := by rw [ev] <;> rfl
theorem ev_call (f : Nat) (es ks : MEs) (perm : List Nat) : ev cl gl (.call f es ks perm) s h = (evs cl gl es s h).bind fun vs h1 => (evs cl gl ks s h1).bind fun ws h2 => match permD (vs ++ ws) perm with
    | some zs => cl f zs h2
    | none => .bad := by rw [ev] <;> rfl
theorem ev_frz (a : ME) : ev cl gl (.frz a) s h = (ev cl gl a s h).bind fun x h1 => frzD x h1 := by rw [ev] <;> rfl
theorem evs_nil : evs cl gl .nil s h = .ok [] h := by rw [evs] <;> rfl
theorem evs_cons (e : ME) (es : MEs) : evs cl gl (.cons e es) s h = (ev cl gl e s h).bind fun x h1 => (evs cl gl es s h1).bind fun xs h2 => .ok (x :: xs) h2 := by rw [evs] <;> rfl
theorem evB_one (c : Bool) (e : ME) : evB cl gl c (.cons e .nil) s h = ev cl gl e s h := by rw [evB] <;> rfl
theorem evB_cons (c : Bool) (e e2 : ME) (es : MEs) : evB cl gl c (.cons e (.cons e2 es)) s h = (ev cl gl e s h).bind fun x h1 => (truthR x h1).bind fun b h2 => if b == c then evB cl gl c (.cons e2 es) s h2 else .ok x h2 := by rw [evB] <;> rfl
theorem evI_seq (a : ME) : evI cl gl (.seq a) s h = (ev cl gl a s h).bind seqD := by rw [evI]
def rngF : Dv → Hc → Res (List Dv) := fun x h1 => match x with
  | .int j => rangeD 0 j h1
  | _ => .bad
def rngF2 (x : Dv) : Dv → Hc → Res (List Dv) := fun y h2 => match x, y with
  | .int i, .int j => rangeD i j h2
  | _, _ => .bad
def enuF : Dv → Hc → Res (List Dv) := fun x h1 => match enumD x h1 with
  | some xs => .ok (enumL 0 xs) h1
  | none => .bad
theorem rngF_int (j : Int) : rngF (.int j) h = rangeD 0 j h := rfl
theorem rngF2_int (i j : Int) : rngF2 (.int i) (.int j) h = rangeD i j h := rfl
theorem enuF_str (l : List Nat) : enuF (.str l) h = .ok (enumL 0 (l.map fun c => .str [c])) h := rfl
theorem enuF_lst (l : List Dv) : enuF (.lst l) h = .ok (enumL 0 l) h := rfl
theorem evI_range1 (a : ME) : evI cl gl (.range1 a) s h = (ev cl gl a s h).bind rngF := by rw [evI]; rfl
theorem evI_range2 (a b : ME) : evI cl gl (.range2 a b) s h = (ev cl gl a s h).bind fun x h1 => (ev cl gl b s h1).bind (rngF2 x) := by rw [evI]; rfl
theorem evI_enum (a : ME) : evI cl gl (.enum a) s h = (ev cl gl a s h).bind enuF := by rw [evI]; rfl
theorem evI_zip (a b : ME) : evI cl gl (.zip a b) s h = (ev cl gl a s h).bind fun x h1 => (ev cl gl b s h1).bind fun y h2 => zipD x y h2 := by rw [evI]
theorem evO_none : evO cl gl .none s h = .ok none h := by rw [evO]
def optF : Dv → Hc → Res (Option Int) := fun x h1 => match x with
  | .int i => .ok (some i) h1
  | _ => .bad
theorem optF_int (i : Int) : optF (.int i) h = .ok (some i) h := rfl
theorem evO_some (e : ME) : evO cl gl (.some e) s h = (ev cl gl e s h).bind optF := by rw [evO]; rfl
theorem evC_none : evC cl gl .none s h = .ok true h := by rw [evC]
theorem evC_some (e : ME) : evC cl gl (.some e) s h = (ev cl gl e s h).bind truthR := by rw [evC]
theorem cmp_inns (a b : List Nat) : cmpD .inn (.str b) (.str a) h = .ok (.bl (subS b a)) h := rfl
theorem cmp_nins (a b : List Nat) : cmpD .nin (.str b) (.str a) h = .ok (.bl (!subS b a)) h := rfl
theorem seqD_str (a : List Nat) : seqD (.str a) h = .ok (a.map fun c => .str [c]) h := rfl
theorem seqD_tup (a : List Dv) : seqD (.tup a) h = .ok a h := rfl
theorem seqD_lst (a : List Dv) : seqD (.lst a) h = .ok a h := rfl
theorem rev_str (a : List Nat) : revD (.str a) h = .ok (.str a.reverse) h := rfl
theorem neg_int (i : Int) : negD (.int i) h = .ok (.int (-i)) h := rfl
theorem SZ0 : SZok 0 = true := rfl
theorem SZ1 : SZok 1 = true := rfl
theorem SZ2 : SZok 2 = true := rfl
theorem SZ3 : SZok 3 = true := rfl
theorem SZ4 : SZok 4 = true := rfl
theorem SZ5 : SZok 5 = true := rfl
theorem SZ6 : SZok 6 = true := rfl
theorem SZ7 : SZok 7 = true := rfl
theorem SZ8 : SZok 8 = true := rfl
theorem beq_tt : (true == true) = true := rfl
theorem beq_ff : (false == false) = true := rfl
theorem beq_tf : (true == false) = false := rfl
theorem beq_ft : (false == true) = false := rfl
end
theorem atI_nat {t : Type} {xs : List t} {k : Nat} {x : t} (hk : xs[k]? = some x) : atI xs (k : Int) = some x := by
  have hl := (List.getElem?_eq_some_iff.mp hk).1
  unfold atI
  rw [ixN_nat hl]
  exact hk
theorem rangeD0 {h : Hc} {n : Nat} (hn : n < 2 ^ 60) : rangeD 0 (n : Int) h = .ok (rangeL 0 n) h := by
  unfold rangeD
  rw [if_pos (by omega)]
  simp
theorem cut_take {t : Type} (xs : List t) (k : Nat) : cutD xs none (some (k : Int)) = xs.take k := by
  simp only [cutD, HT.sIx_none, HT.sIx_nat, List.drop_zero, Nat.sub_zero]
  rw [List.take_eq_take_iff.mpr]
  simp
theorem cut_drop {t : Type} (xs : List t) (k : Nat) : cutD xs (some (k : Int)) none = xs.drop k := by
  simp only [cutD, HT.sIx_none, HT.sIx_nat]
  by_cases z : k ≤ xs.length
  · rw [Nat.min_eq_left z, List.take_of_length_le (by simp)]
  · rw [Nat.min_eq_right (by omega), List.drop_length, List.drop_eq_nil_of_le (by omega), List.take_nil]
theorem strsOf_strs : ∀ cs : List (List Nat), strsOf (cs.map Dv.str) = some cs
  | [] => rfl
  | c :: cs => by simp [strsOf, strsOf_strs cs]
theorem joinS_nil : ∀ cs : List (List Nat), joinS [] cs = cs.flatten
  | [] => rfl
  | [x] => by simp [joinS]
  | x :: y :: r => by simp [joinS, joinS_nil (y :: r)]
theorem join_ok {h : Hc} {cs : List (List Nat)} (hz : (cs.map List.length).sum ≤ SZ) : mtD .join (.str []) [.lst (cs.map .str)] h = .ok (.str cs.flatten) h := by
  simp only [mtD, lstOf, Option.bind_some, strsOf_strs, joinS_nil]
  rw [if_pos (SZok_iff.mpr (by simpa using hz))]
theorem flat_ones : ∀ cs : List Nat, (cs.map fun c => [c]).flatten = cs
  | [] => rfl
  | c :: cs => by rw [List.map_cons, List.flatten_cons, flat_ones cs]; rfl
theorem join1_ok {h : Hc} {cs : List Nat} (hz : cs.length ≤ SZ) : mtD .join (.str []) [.lst (cs.map fun c => .str [c])] h = .ok (.str cs) h := by
  have e : (cs.map fun c => Dv.str [c]) = (cs.map fun c => [c]).map Dv.str := by simp
  have e2 := flat_ones cs
  rw [e, join_ok, e2]
  have : ((cs.map fun c => [c]).map List.length).sum = cs.length := by
    rw [← List.length_flatten, e2]
  omega

/-! ### drawing -/
/-- a heap with the box at n, at most N draws so far -/
structure BX (N : Nat) (h : Hc) (n : Nat) : Prop where
  flat : Flat h
  box : ∃ a b c, Box N h n a b c
theorem BX.le {N M : Nat} {h : Hc} {n : Nat} (b : BX N h n) (l : N ≤ M) : BX M h n := by
  obtain ⟨f, x, y, z, q⟩ := b
  exact ⟨f, x, y, z, ⟨q.at_, q.a0, q.b0, q.b1, q.c0, by have := q.c1; omega⟩⟩
theorem BX.lt {N : Nat} {h : Hc} {n : Nat} (b : BX N h n) : n < h.length := by
  obtain ⟨_, x, y, z, q⟩ := b
  exact (List.getElem?_eq_some_iff.mp q.at_).1
theorem BX.app {N : Nat} {h : Hc} {n : Nat} (b : BX N h n) {r : Hc} (f : Flat r) : BX N (h ++ r) n := by
  have l := b.lt
  obtain ⟨f0, x, y, z, q⟩ := b
  exact ⟨f0.app f, x, y, z, ⟨by rw [List.getElem?_append_left l]; exact q.at_, q.a0, q.b0, q.b1, q.c0, q.c1⟩⟩
/-- only the box is another one -/
def Fr (n : Nat) (h h' : Hc) : Prop := ∃ c, h' = h.set n c
theorem Fr.refl {n : Nat} {h : Hc} : Fr n h h := by
  by_cases z : n < h.length
  · exact ⟨h[n], by rw [List.set_getElem_self]⟩
  · exact ⟨.scr [], by rw [List.set_eq_of_length_le (by omega)]⟩
theorem Fr.trans {n : Nat} {h h1 h2 : Hc} (a : Fr n h h1) (b : Fr n h1 h2) : Fr n h h2 := by
  obtain ⟨c, rfl⟩ := a
  obtain ⟨d, rfl⟩ := b
  exact ⟨d, by rw [List.set_set]⟩
theorem Fr.get {n : Nat} {h h' : Hc} (a : Fr n h h') {i : Nat} (hi : i ≠ n) : h'[i]? = h[i]? := by
  obtain ⟨c, rfl⟩ := a
  rw [List.getElem?_set_ne (Ne.symm hi)]
theorem Fr.len {n : Nat} {h h' : Hc} (a : Fr n h h') : h'.length = h.length := by
  obtain ⟨c, rfl⟩ := a
  simp
/-- with more cells behind -/
theorem Fr.app {n : Nat} {h r h' : Hc} (hn : n < h.length) (a : Fr n (h ++ r) h') : ∃ h1, h' = h1 ++ r ∧ Fr n h h1 := by
  obtain ⟨c, rfl⟩ := a
  exact ⟨h.set n c, by rw [List.set_append_left _ _ hn], c, rfl⟩
theorem take_bx {fs : List MFn} {gl : List Dv} {k i : Nat} (hf : fs[i]? = some fTake) {N n : Nat} {h : Hc} {B : Int} (bx : BX N h n) (hN : N < 2 ^ 60) (hB : 0 < B) (hB2 : B < 2 ^ 62) (r : Hc) :
    ∃ (v : Nat) (h' : Hc), callF fs gl (k + 1) i [.loc n, .int B] (h ++ r) = .ok (.int v) (h' ++ r) ∧ (v : Int) < B ∧ BX (N + 1) h' n ∧ (h'.length = h.length ∧ Fr n h h') := by
  have l := bx.lt
  obtain ⟨f0, a, b, c, q⟩ := bx
  have q' : Box N (h ++ r) n a b c := ⟨by rw [List.getElem?_append_left l]; exact q.at_, q.a0, q.b0, q.b1, q.c0, q.c1⟩
  obtain ⟨v, a', c', e, v0, v1, q2⟩ := take_ok (gl := gl) (k := k) hf q' hN hB hB2
  refine ⟨v.toNat, h.set n (.lst [.int a', .int b, .int c']), ?_, by omega, ⟨f0.set rfl, a', b, c', ⟨?_, q2.a0, q2.b0, q2.b1, q2.c0, q2.c1⟩⟩, by simp, _, rfl⟩
  · rw [e, List.set_append_left _ _ l, Int.toNat_of_nonneg v0]
  · rw [List.getElem?_set_self l]
def bOf (ta : Nat) : MSs := (.cons (.ret (.idx (.var 1) (.call ta (.cons (.var 0) (.cons (.bi .len (.cons (.var 1) .nil)) .nil)) .nil [0, 1])))
  .nil)
def fOf (ta : Nat) : MFn := ⟨2, 2, bOf ta⟩
/-- an item of a list -/
theorem of_bx {fs : List MFn} {gl : List Dv} {k i ta : Nat} (hf : fs[i]? = some (fOf ta)) (ht : fs[ta]? = some fTake) {N n : Nat} {h : Hc} {xs : List Dv} (bx : BX N h n) (hN : N < 2 ^ 60) (hx : xs ≠ []) (hx2 : xs.length < 2 ^ 60) :
    ∃ (v : Dv) (h' : Hc), callF fs gl (k + 2) i [.loc n, .lst xs] h = .ok v h' ∧ v ∈ xs ∧ BX (N + 1) h' n ∧ (h'.length = h.length ∧ Fr n h h') := by
  have l0 : 0 < xs.length := List.length_pos_iff.mpr hx
  obtain ⟨v, h', e, v1, bx', hl⟩ := take_bx (gl := gl) (k := k) ht bx hN (B := xs.length) (by omega) (by omega) []
  have hv : v < xs.length := by omega
  refine ⟨xs[v], h', ?_, List.getElem_mem _, bx', hl⟩
  simp only [List.append_nil] at e
  rw [callF_in hf rfl]
  show (exs _ _ (.cons _ .nil) [some (.loc n), some (.lst xs)] h).bind _ = _
  simp -implicitDefEqProofs only [exs_cons, seqF, exs_nil, ex_asg, ex_par, ex_seti, ex_aug, ex_expr, ex_ret, ex_retn, ex_ite, ex_forr, ex_whil, ex_pass, ex_brk, ex_cont, ev_var, ev_cst, ev_glb, ev_bin, ev_cmp, ev_chain, ev_isn, ev_neg, ev_not, ev_bop, ev_ite, ev_tup, ev_lst, ev_new, ev_idx, ev_sl, ev_rev, ev_bi, ev_bi1, ev_mt, ev_call, ev_comp, ev_frz, evs_nil, evs_cons, evB_one, evB_cons, evO_none, evO_some, optF_int, evC_none, evC_some, evI_seq, evI_range1, evI_range2, evI_enum, evI_zip, rngF_int, rngF2_int, enuF_str, enuF_lst, permD, List.getElem?_cons_zero, List.getElem?_cons_succ, List.cons_append, List.nil_append, List.append_nil, List.set_cons_zero, List.set_cons_succ, Res.bind_ok, Res.calm_ok, tg_name, tgD, compF, bodyF, wipeD, List.length_cons, List.length_nil, List.zip_cons_cons, List.zip_nil_right, List.foldl_cons, List.foldl_nil, if_true, if_false, Bool.false_eq_true, Bool.true_eq_false, truth_bl, truth_str, truth_int, truth_lst, truth_tup, truth_non, Bool.not_true, Bool.not_false, beq_self_eq_true, Nat.zero_add, Nat.reduceAdd, Nat.reduceSub, SZ0, SZ1, SZ2, SZ3, SZ4, SZ5, SZ6, SZ7, SZ8, bin_add, bin_sub, cmp_lt, cmp_le, cmp_gt, cmp_ge, cmp_eqi, cmp_nei, cmp_eqs, cmp_nes, cmp_eqb, cmp_neb, cmp_inns, cmp_nins, bi_int, bi_intb, bi_abs, bi_lens, bi_lent, bi_lenl, seqD_str, seqD_tup, seqD_lst, rev_str, neg_int, endR, beq_tt, beq_ff, beq_tf, beq_ft, e, idx_lst (atI_nat (List.getElem?_eq_getElem hv)), trim_len hl.1]
theorem of_bxs {fs : List MFn} {gl : List Dv} {k i ta : Nat} (hf : fs[i]? = some (fOf ta)) (ht : fs[ta]? = some fTake) {N n : Nat} {h : Hc} {s : List Nat} (bx : BX N h n) (hN : N < 2 ^ 60) (hx : s ≠ []) (hx2 : s.length < 2 ^ 60) :
    ∃ (c : Nat) (h' : Hc), callF fs gl (k + 2) i [.loc n, .str s] h = .ok (.str [c]) h' ∧ c ∈ s ∧ BX (N + 1) h' n ∧ (h'.length = h.length ∧ Fr n h h') := by
  have l0 : 0 < s.length := List.length_pos_iff.mpr hx
  obtain ⟨v, h', e, v1, bx', hl⟩ := take_bx (gl := gl) (k := k) ht bx hN (B := s.length) (by omega) (by omega) []
  have hv : v < s.length := by omega
  refine ⟨s[v], h', ?_, List.getElem_mem _, bx', hl⟩
  simp only [List.append_nil] at e
  rw [callF_in hf rfl]
  have hx : ∀ h, idxD (.str s) (.int (v : Int)) h = .ok (.str [s[v]]) h := fun h => by
    simp only [idxD, dctOf, idxS, atD, atI_nat (List.getElem?_eq_getElem hv)]
  show (exs _ _ (.cons _ .nil) [some (.loc n), some (.str s)] h).bind _ = _
  simp -implicitDefEqProofs only [exs_cons, seqF, exs_nil, ex_asg, ex_par, ex_seti, ex_aug, ex_expr, ex_ret, ex_retn, ex_ite, ex_forr, ex_whil, ex_pass, ex_brk, ex_cont, ev_var, ev_cst, ev_glb, ev_bin, ev_cmp, ev_chain, ev_isn, ev_neg, ev_not, ev_bop, ev_ite, ev_tup, ev_lst, ev_new, ev_idx, ev_sl, ev_rev, ev_bi, ev_bi1, ev_mt, ev_call, ev_comp, ev_frz, evs_nil, evs_cons, evB_one, evB_cons, evO_none, evO_some, optF_int, evC_none, evC_some, evI_seq, evI_range1, evI_range2, evI_enum, evI_zip, rngF_int, rngF2_int, enuF_str, enuF_lst, permD, List.getElem?_cons_zero, List.getElem?_cons_succ, List.cons_append, List.nil_append, List.append_nil, List.set_cons_zero, List.set_cons_succ, Res.bind_ok, Res.calm_ok, tg_name, tgD, compF, bodyF, wipeD, List.length_cons, List.length_nil, List.zip_cons_cons, List.zip_nil_right, List.foldl_cons, List.foldl_nil, if_true, if_false, Bool.false_eq_true, Bool.true_eq_false, truth_bl, truth_str, truth_int, truth_lst, truth_tup, truth_non, Bool.not_true, Bool.not_false, beq_self_eq_true, Nat.zero_add, Nat.reduceAdd, Nat.reduceSub, SZ0, SZ1, SZ2, SZ3, SZ4, SZ5, SZ6, SZ7, SZ8, bin_add, bin_sub, cmp_lt, cmp_le, cmp_gt, cmp_ge, cmp_eqi, cmp_nei, cmp_eqs, cmp_nes, cmp_eqb, cmp_neb, cmp_inns, cmp_nins, bi_int, bi_intb, bi_abs, bi_lens, bi_lent, bi_lenl, seqD_str, seqD_tup, seqD_lst, rev_str, neg_int, endR, beq_tt, beq_ff, beq_tf, beq_ft, e, hx, trim_len hl.1]
def bMixL (ta : Nat) : MSs := (.cons (.asg (.name 5) (.call ta (.cons (.var 0) (.cons (.bi .len (.cons (.var 3) .nil)) .nil)) .nil [0, 1]))
  (.cons (.expr (.mt .append (.var 4) (.cons (.idx (.var 3) (.var 5)) .nil)))
  (.cons (.asg (.name 3) (.bin .add (.sl (.var 3) .none (.some (.var 5))) (.sl (.var 3) (.some (.bin .add (.var 5) (.cst (.int 1)))) .none)))
  .nil)))
def bMix (ta : Nat) : MSs := (.cons (.par [3, 4] (.cons (.bi .list (.cons (.var 1) .nil)) (.cons (.new .nil) .nil)))
  (.cons (.forr (.name 2) (.range1 (.bi .len (.cons (.var 1) .nil))) (bMixL ta))
  (.cons (.ret (.frz (.var 4)))
  .nil)))
def fMix (ta : Nat) : MFn := ⟨2, 6, bMix ta⟩
theorem perm_eraseIdx {t : Type} {xs : List t} {v : Nat} (hv : v < xs.length) : List.Perm (xs[v] :: (xs.take v ++ xs.drop (v + 1))) xs := by
  conv => rhs; rw [← List.take_append_drop v xs, List.drop_eq_getElem_cons hv]
  exact List.perm_middle.symm
theorem mix_loop {fs : List MFn} {gl : List Dv} {k ta : Nat} (ht : fs[ta]? = some fTake) {t : Type} (f : t → Dv) (L : Dv) {n : Nat} (xs : List t) : ∀ (m : Nat) (j : Int) (N : Nat) (h : Hc) (rest fo : List t) (x2 x5 : Option Dv), BX N h n → N + m < 2 ^ 60 → rest.length = m → List.Perm (fo ++ rest) xs → xs.length < 2 ^ 20 →
    ∃ (h' : Hc) (fo' : List t) (y2 y3 y5 : Option Dv), forL (bodyF (callF fs gl (k + 1)) gl (.name 2) (bMixL ta)) (rangeL j m) [some (.loc n), some L, x2, some (.lst (rest.map f)), some (.loc h.length), x5] (h ++ [.lst (fo.map f)]) = .ok (.next [some (.loc n), some L, y2, y3, some (.loc h.length), y5]) (h' ++ [.lst (fo'.map f)]) ∧ List.Perm fo' xs ∧ BX (N + m) h' n ∧ (h'.length = h.length ∧ Fr n h h')
  | 0, j, N, h, rest, fo, x2, x5, bx, hN, hr, hp, hx => by
    have : rest = [] := List.eq_nil_of_length_eq_zero hr
    subst this
    exact ⟨h, fo, _, _, _, rfl, by simpa using hp, bx, rfl, .refl⟩
  | m + 1, j, N, h, rest, fo, x2, x5, bx, hN, hr, hp, hx => by
    have hxl : fo.length + rest.length = xs.length := by have := hp.length_eq; simpa using this
    obtain ⟨v, h1, e, v1, bx1, hl⟩ := take_bx (gl := gl) (k := k) ht bx (by omega) (B := ((rest.map f).length : Nat)) (by simp; omega) (by simp; omega) [.lst (fo.map f)]
    have hv : v < rest.length := by simp at v1; omega
    have hat : idxD (.lst (rest.map f)) (.int (v : Int)) (h1 ++ [.lst (fo.map f)]) = .ok (f rest[v]) (h1 ++ [.lst (fo.map f)]) := idx_lst (atI_nat (by simp [hv]))
    have hz : (h1 ++ [Cell.lst (fo.map f)])[h.length]? = some (.lst (fo.map f)) := by rw [← hl.1]; simp
    have hset : (h1 ++ [Cell.lst (fo.map f)]).set h.length (.lst (fo.map f ++ [f rest[v]])) = h1 ++ [.lst ((fo ++ [rest[v]]).map f)] := by rw [← hl.1]; simp
    have hok : mtOk .append (.loc h.length) (h1 ++ [Cell.lst (fo.map f)]) = true := by simp only [mtOk, lstOf, hz]; rfl
    have happ : mtD .append (.loc h.length) [f rest[v]] (h1 ++ [Cell.lst (fo.map f)]) = .ok .non (h1 ++ [.lst ((fo ++ [rest[v]]).map f)]) := by
      simp only [mtD, hz]
      rw [if_pos (SZok_iff.mpr (by simp; unfold SZ; omega)), hset]
    have hs1 : ∀ g, slD (.lst (rest.map f)) none (some (v : Int)) g = .ok (.lst ((rest.take v).map f)) g := fun g => by
      simp only [slD, lstOf, cut_take, List.map_take]
    have hs2 : ∀ g, slD (.lst (rest.map f)) (some ((v : Int) + 1)) none g = .ok (.lst ((rest.drop (v + 1)).map f)) g := fun g => by
      have : (v : Int) + 1 = ((v + 1 : Nat) : Int) := by simp
      rw [this]
      simp only [slD, lstOf, cut_drop, List.map_drop]
    have hadd : ∀ g, binD .add (.lst ((rest.take v).map f)) (.lst ((rest.drop (v + 1)).map f)) g = .ok (.lst ((rest.take v ++ rest.drop (v + 1)).map f)) g := fun g => by
      rw [bin_addl (by simp; unfold SZ; omega), List.map_append]
    obtain ⟨h2, fo', y2, y3, y5, ih, hp2, bx2, hl2⟩ := mix_loop ht f L xs m (j + 1) (N + 1) h1 (rest.take v ++ rest.drop (v + 1)) (fo ++ [rest[v]]) (some (.int j)) (some (.int v)) bx1 (by omega) (by simp; omega) (by
      refine List.Perm.trans ?_ hp
      rw [List.append_assoc]
      exact List.Perm.append_left fo (perm_eraseIdx hv)) hx
    refine ⟨h2, fo', y2, y3, y5, ?_, hp2, bx2.le (by omega), by omega, hl.2.trans hl2.2⟩
    rw [rangeL, forL]
    have step : bodyF (callF fs gl (k + 1)) gl (.name 2) (bMixL ta) (.int j) [some (.loc n), some L, x2, some (.lst (rest.map f)), some (.loc h.length), x5] (h ++ [.lst (fo.map f)]) = .ok (.next [some (.loc n), some L, some (.int j), some (.lst ((rest.take v ++ rest.drop (v + 1)).map f)), some (.loc h.length), some (.int v)]) (h1 ++ [.lst ((fo ++ [rest[v]]).map f)]) := by
      simp -implicitDefEqProofs only [bMixL, exs_cons, seqF, exs_nil, ex_asg, ex_par, ex_seti, ex_aug, ex_expr, ex_ret, ex_retn, ex_ite, ex_forr, ex_whil, ex_pass, ex_brk, ex_cont, ev_var, ev_cst, ev_glb, ev_bin, ev_cmp, ev_chain, ev_isn, ev_neg, ev_not, ev_bop, ev_ite, ev_tup, ev_lst, ev_new, ev_idx, ev_sl, ev_rev, ev_bi, ev_bi1, ev_mt, ev_call, ev_comp, ev_frz, evs_nil, evs_cons, evB_one, evB_cons, evO_none, evO_some, optF_int, evC_none, evC_some, evI_seq, evI_range1, evI_range2, evI_enum, evI_zip, rngF_int, rngF2_int, enuF_str, enuF_lst, permD, List.getElem?_cons_zero, List.getElem?_cons_succ, List.cons_append, List.nil_append, List.append_nil, List.set_cons_zero, List.set_cons_succ, Res.bind_ok, Res.calm_ok, tg_name, tgD, compF, bodyF, wipeD, List.length_cons, List.length_nil, List.zip_cons_cons, List.zip_nil_right, List.foldl_cons, List.foldl_nil, if_true, if_false, Bool.false_eq_true, Bool.true_eq_false, truth_bl, truth_str, truth_int, truth_lst, truth_tup, truth_non, Bool.not_true, Bool.not_false, beq_self_eq_true, Nat.zero_add, Nat.reduceAdd, Nat.reduceSub, SZ0, SZ1, SZ2, SZ3, SZ4, SZ5, SZ6, SZ7, SZ8, bin_add, bin_sub, cmp_lt, cmp_le, cmp_gt, cmp_ge, cmp_eqi, cmp_nei, cmp_eqs, cmp_nes, cmp_eqb, cmp_neb, cmp_inns, cmp_nins, bi_int, bi_intb, bi_abs, bi_lens, bi_lent, bi_lenl, seqD_str, seqD_tup, seqD_lst, rev_str, neg_int, endR, beq_tt, beq_ff, beq_tf, beq_ft, e, hat, hok, happ, hs1, hs2, hadd]
    rw [step]
    rw [hl.1] at ih
    exact ih
theorem mix_bx {fs : List MFn} {gl : List Dv} {k i ta : Nat} (hf : fs[i]? = some (fMix ta)) (ht : fs[ta]? = some fTake) {t : Type} (f : t → Dv) (hbel : ∀ x, belowD 0 (f x) = true) {N n : Nat} {h : Hc} {xs : List t} (bx : BX N h n) (hx : xs.length < 2 ^ 20) (hN : N + xs.length < 2 ^ 60) :
    ∃ (ys : List t) (h' : Hc), callF fs gl (k + 2) i [.loc n, .lst (xs.map f)] h = .ok (.lst (ys.map f)) h' ∧ List.Perm ys xs ∧ BX (N + xs.length) h' n ∧ (h'.length = h.length ∧ Fr n h h') := by
  obtain ⟨h', fo', y2, y3, y5, e, hp, bx', hl⟩ := mix_loop (gl := gl) (k := k) ht f (.lst (xs.map f)) xs xs.length 0 N h xs [] none none bx hN rfl (by simp) hx
  refine ⟨fo', h', ?_, hp, bx', hl⟩
  rw [callF_in hf rfl]
  have bl : ∀ g, biD .list [.lst (xs.map f)] g = .ok (.lst (xs.map f)) g := fun _ => rfl
  have rg : rangeD 0 (((xs.map f).length : Nat) : Int) (h ++ [.lst []]) = .ok (rangeL 0 xs.length) (h ++ [.lst []]) := by
    rw [rangeD0 (by simp; omega)]; simp
  have fr : frzD (.loc h.length) (h' ++ [.lst (fo'.map f)]) = .ok (.lst (fo'.map f)) (h' ++ [.fz (fo'.map f)]) := by
    have : (h' ++ [Cell.lst (fo'.map f)])[h.length]? = some (.lst (fo'.map f)) := by rw [← hl.1]; simp
    simp only [frzD, this]
    rw [← hl.1]; simp
  have bel : belowD 0 (.lst (fo'.map f)) = true := by
    simp only [belowD]
    generalize fo' = l
    induction l with
    | nil => rfl
    | cons x l ih => simp only [List.map_cons, belowDs, hbel, ih]; rfl
  simp only [List.map_nil] at e
  show (exs _ _ (.cons _ (.cons (.forr _ _ (bMixL ta)) _)) [some (.loc n), some (.lst (xs.map f)), none, none, none, none] h).bind _ = _
  simp -implicitDefEqProofs only [exs_cons, ex_par, evs_cons, evs_nil, ev_bi, ev_var, ev_new, List.getElem?_cons_zero, List.getElem?_cons_succ, Res.bind_ok, bl, List.length_cons, List.length_nil, SZ0, Nat.reduceAdd, if_true, List.zip_cons_cons, List.zip_nil_right, List.foldl_cons, List.foldl_nil, List.set_cons_succ, List.set_cons_zero, seqF, ex_forr, evI_range1, rngF_int, bi_lenl, rg, e, ex_ret, ev_frz, fr, endR]
  exact trim_flat hl.1 bel bx'.flat
end Dn

set_option Elab.async false
set_option linter.all false
set_option maxRecDepth 100000
set_option maxHeartbeats 4000000
/-! what a run gives, it gives with more of the calls known -/
namespace Dn
open PySem L2
def Le {t : Type} (a b : Res t) : Prop := ∀ x h, a = .ok x h → b = .ok x h
section
variable {t u : Type}
theorem Le.rfl' {a : Res t} : Le a a := fun _ _ e => e
theorem Le.bad {a : Res t} : Le .bad a := fun _ _ e => by cases e
theorem Le.exc {a : Res t} {e : Exn} {h : Hc} : Le (.exc e h) a := fun _ _ q => by cases q
theorem Le.trans {a b c : Res t} (p : Le a b) (q : Le b c) : Le a c := fun x h e => q x h (p x h e)
theorem Le.bind {a b : Res t} {k l : t → Hc → Res u} (p : Le a b) (q : ∀ x h, Le (k x h) (l x h)) : Le (a.bind k) (b.bind l) := fun y g e => by
  cases a with
  | ok x h => rw [p x h rfl, Res.bind_ok]; exact q x h y g e
  | exc _ _ => cases e
  | bad => cases e
theorem Le.calm {a b : Res t} (p : Le a b) : Le a.calm b.calm := fun y g e => by
  cases a with
  | ok x h => rw [p x h rfl]; exact e
  | exc _ _ => cases e
  | bad => cases e
theorem Le.ite {c : Prop} [Decidable c] {a b a' b' : Res t} (p : Le a a') (q : Le b b') : Le (if c then a else b) (if c then a' else b') := by
  by_cases z : c
  · rw [if_pos z, if_pos z]; exact p
  · rw [if_neg z, if_neg z]; exact q
end
theorem compL_le {f g : Dv → Hc → Res (Option Dv)} (p : ∀ x h, Le (f x h) (g x h)) : ∀ (xs : List Dv) (h : Hc), Le (compL f xs h) (compL g xs h)
  | [], h => .rfl'
  | x :: xs, h => by
    rw [compL, compL]
    exact (p x h).calm.bind fun y h1 => (compL_le p xs h1).bind fun _ _ => .rfl'
theorem forL_le {f g : Dv → Env1 → Hc → Res Fl} (p : ∀ x s h, Le (f x s h) (g x s h)) : ∀ (xs : List Dv) (s : Env1) (h : Hc), Le (forL f xs s h) (forL g xs s h)
  | [], s, h => .rfl'
  | x :: xs, s, h => by
    rw [forL, forL]
    refine (p x s h).bind fun r h1 => ?_
    cases r with
    | next s1 => exact forL_le p xs s1 h1
    | cont s1 => exact forL_le p xs s1 h1
    | brk s1 => exact .rfl'
    | ret v => exact .rfl'
theorem whileL_le {c d : Env1 → Hc → Res Bool} {f g : Env1 → Hc → Res Fl} (q : ∀ s h, Le (c s h) (d s h)) (p : ∀ s h, Le (f s h) (g s h)) : ∀ (n : Nat) (s : Env1) (h : Hc), Le (whileL c f n s h) (whileL d g n s h)
  | 0, s, h => .rfl'
  | n + 1, s, h => by
    rw [whileL, whileL]
    refine (q s h).bind fun b h1 => ?_
    cases b with
    | false => exact .rfl'
    | true =>
      rw [if_pos rfl, if_pos rfl]
      refine (p s h1).bind fun r h2 => ?_
      cases r with
      | next s1 => exact whileL_le q p n s1 h2
      | cont s1 => exact whileL_le q p n s1 h2
      | brk s1 => exact .rfl'
      | ret v => exact .rfl'
section
variable {cl dl : Nat → List Dv → Hc → Res Dv} {gl : List Dv} (C : ∀ f vs h, Le (cl f vs h) (dl f vs h))
include C
mutual
theorem ev_le : ∀ (m : ME) (s : Env1) (h : Hc), Le (ev cl gl m s h) (ev dl gl m s h)
  | .var _, s, h => by rw [ev, ev]; exact .rfl'
  | .cst _, s, h => by rw [ev, ev]; exact .rfl'
  | .glb _, s, h => by rw [ev, ev]; exact .rfl'
  | .bin _ a b, s, h => by rw [ev, ev]; exact (ev_le a s h).bind fun _ h1 => (ev_le b s h1).bind fun _ _ => .rfl'
  | .cmp _ a b, s, h => by rw [ev, ev]; exact (ev_le a s h).bind fun _ h1 => (ev_le b s h1).bind fun _ _ => .rfl'
  | .chain _ _ a b c, s, h => by
    rw [ev, ev]
    refine (ev_le a s h).bind fun _ h1 => (ev_le b s h1).bind fun _ _ => Le.bind .rfl' fun z h3 => ?_
    cases z with
    | bl k =>
      cases k with
      | true => exact (ev_le c s h3).bind fun _ _ => .rfl'
      | false => exact .rfl'
    | _ => exact .rfl'
  | .isn _ a, s, h => by rw [ev, ev]; exact (ev_le a s h).bind fun _ _ => .rfl'
  | .neg a, s, h => by rw [ev, ev]; exact (ev_le a s h).bind fun _ _ => .rfl'
  | .not a, s, h => by rw [ev, ev]; exact (ev_le a s h).bind fun _ _ => .rfl'
  | .bop c es, s, h => by rw [ev, ev]; exact evB_le es c s h
  | .ite c a b, s, h => by
    rw [ev, ev]
    exact (ev_le c s h).bind fun _ h1 => Le.bind .rfl' fun _ h2 => .ite (ev_le a s h2) (ev_le b s h2)
  | .tup es, s, h => by rw [ev, ev]; exact (evs_le es s h).bind fun _ _ => .rfl'
  | .lst es, s, h => by rw [ev, ev]; exact (evs_le es s h).bind fun _ _ => .rfl'
  | .new es, s, h => by rw [ev, ev]; exact (evs_le es s h).bind fun _ _ => .rfl'
  | .dnew, s, h => by rw [ev, ev]; exact .rfl'
  | .idx a b, s, h => by rw [ev, ev]; exact (ev_le a s h).bind fun _ h1 => (ev_le b s h1).bind fun _ _ => .rfl'
  | .sl a lo hi, s, h => by rw [ev, ev]; exact (ev_le a s h).bind fun _ h1 => (evO_le lo s h1).bind fun _ h2 => (evO_le hi s h2).bind fun _ _ => .rfl'
  | .rev a, s, h => by rw [ev, ev]; exact (ev_le a s h).bind fun _ _ => .rfl'
  | .bi _ es, s, h => by rw [ev, ev]; exact (evs_le es s h).bind fun _ _ => .rfl'
  | .bi1 _ a, s, h => by rw [ev, ev]; exact (ev_le a s h).bind fun _ _ => .rfl'
  | .mt _ o es, s, h => by
    rw [ev, ev]
    exact (ev_le o s h).bind fun _ h1 => .ite ((evs_le es s h1).bind fun _ _ => .rfl') .rfl'
  | .call f es ks perm, s, h => by
    rw [ev, ev]
    refine (evs_le es s h).bind fun vs h1 => (evs_le ks s h1).bind fun ws h2 => ?_
    cases permD (vs ++ ws) perm with
    | some zs => exact C f zs h2
    | none => exact .rfl'
  | .comp tg vs it cond elt, s, h => by
    rw [ev, ev]
    refine (evI_le it s h).bind fun items h1 => (compL_le (fun x h2 => ?_) items h1).bind fun _ _ => .rfl'
    cases tgD tg x (wipeD s vs) with
    | none => exact .rfl'
    | some s1 => exact (evC_le cond s1 h2).bind fun b h3 => .ite ((ev_le elt s1 h3).bind fun _ _ => .rfl') .rfl'
  | .frz a, s, h => by rw [ev, ev]; exact (ev_le a s h).bind fun _ _ => .rfl'
theorem evs_le : ∀ (m : MEs) (s : Env1) (h : Hc), Le (evs cl gl m s h) (evs dl gl m s h)
  | .nil, s, h => by rw [evs, evs]; exact .rfl'
  | .cons e es, s, h => by rw [evs, evs]; exact (ev_le e s h).bind fun _ h1 => (evs_le es s h1).bind fun _ _ => .rfl'
theorem evB_le : ∀ (m : MEs) (c : Bool) (s : Env1) (h : Hc), Le (evB cl gl c m s h) (evB dl gl c m s h)
  | .nil, c, s, h => by rw [evB, evB]; exact .rfl'
  | .cons e .nil, c, s, h => by rw [evB_one, evB_one]; exact ev_le e s h
  | .cons e (.cons e2 es), c, s, h => by
    rw [evB_cons, evB_cons]
    exact (ev_le e s h).bind fun _ _ => Le.bind .rfl' fun _ h2 => .ite (evB_le (.cons e2 es) c s h2) .rfl'
theorem evO_le : ∀ (m : MO) (s : Env1) (h : Hc), Le (evO cl gl m s h) (evO dl gl m s h)
  | .none, s, h => by rw [evO, evO]; exact .rfl'
  | .some e, s, h => by rw [evO, evO]; exact (ev_le e s h).bind fun _ _ => .rfl'
theorem evC_le : ∀ (m : MO) (s : Env1) (h : Hc), Le (evC cl gl m s h) (evC dl gl m s h)
  | .none, s, h => by rw [evC, evC]; exact .rfl'
  | .some e, s, h => by rw [evC, evC]; exact (ev_le e s h).bind fun _ _ => .rfl'
theorem evI_le : ∀ (m : MIt) (s : Env1) (h : Hc), Le (evI cl gl m s h) (evI dl gl m s h)
  | .seq a, s, h => by rw [evI, evI]; exact (ev_le a s h).bind fun _ _ => .rfl'
  | .range1 a, s, h => by rw [evI, evI]; exact (ev_le a s h).bind fun _ _ => .rfl'
  | .range2 a b, s, h => by rw [evI, evI]; exact (ev_le a s h).bind fun _ h1 => (ev_le b s h1).bind fun _ _ => .rfl'
  | .enum a, s, h => by rw [evI, evI]; exact (ev_le a s h).bind fun _ _ => .rfl'
  | .zip a b, s, h => by rw [evI, evI]; exact (ev_le a s h).bind fun _ h1 => (ev_le b s h1).bind fun _ _ => .rfl'
end
mutual
theorem ex_le : ∀ (m : MS) (s : Env1) (h : Hc), Le (ex cl gl m s h) (ex dl gl m s h)
  | .asg _ m, s, h => by rw [ex, ex]; exact (ev_le C m s h).bind fun _ _ => .rfl'
  | .par _ es, s, h => by rw [ex, ex]; exact (evs_le C es s h).bind fun _ _ => .rfl'
  | .seti o i v, s, h => by rw [ex, ex]; exact (ev_le C v s h).bind fun _ h1 => (ev_le C o s h1).bind fun _ h2 => (ev_le C i s h2).bind fun _ _ => .rfl'
  | .aug i op m, s, h => by
    rw [ex, ex]
    cases s[i]? with
    | none => exact .rfl'
    | some o =>
      cases o with
      | none => exact .rfl'
      | some x => exact .ite ((ev_le C m s h).bind fun _ _ => .rfl') .rfl'
  | .expr m, s, h => by rw [ex, ex]; exact (ev_le C m s h).bind fun _ _ => .rfl'
  | .ret m, s, h => by rw [ex, ex]; exact (ev_le C m s h).bind fun _ _ => .rfl'
  | .retn, s, h => by rw [ex, ex]; exact .rfl'
  | .ite c a b, s, h => by
    rw [ex, ex]
    exact (ev_le C c s h).bind fun _ _ => Le.bind .rfl' fun _ h2 => .ite (exs_le a s h2) (exs_le b s h2)
  | .forr t it body, s, h => by
    rw [ex, ex]
    refine (evI_le C it s h).bind fun items h1 => forL_le (fun x s1 h2 => ?_) items s h1
    cases tgD t x s1 with
    | none => exact .rfl'
    | some s2 => exact exs_le body s2 h2
  | .whil fuel c body, s, h => by
    rw [ex, ex]
    exact whileL_le (fun s h => (ev_le C c s h).bind fun _ _ => .rfl') (fun s h => exs_le body s h) fuel s h
  | .pass, s, h => by rw [ex, ex]; exact .rfl'
  | .brk, s, h => by rw [ex, ex]; exact .rfl'
  | .cont, s, h => by rw [ex, ex]; exact .rfl'
  | .never, s, h => by rw [ex, ex]; exact .rfl'
theorem exs_le : ∀ (m : MSs) (s : Env1) (h : Hc), Le (exs cl gl m s h) (exs dl gl m s h)
  | .nil, s, h => by rw [exs, exs]; exact .rfl'
  | .cons st ss, s, h => by
    rw [exs, exs]
    refine (ex_le st s h).bind fun r h1 => ?_
    cases r with
    | next s1 => exact exs_le ss s1 h1
    | _ => exact .rfl'
end
end
theorem callF_le {fs : List MFn} {gl : List Dv} : ∀ (k : Nat) (f : Nat) (vs : List Dv) (h : Hc), Le (callF fs gl k f vs h) (callF fs gl (k + 1) f vs h)
  | 0, f, vs, h => by rw [callF]; exact .bad
  | k + 1, f, vs, h => by
    rw [callF, callF]
    cases fs[f]? with
    | none => exact .rfl'
    | some fn =>
      dsimp only
      refine .ite ((exs_le (fun f vs h => callF_le k f vs h) fn.body _ h).bind fun r h1 => ?_) .rfl'
      cases r <;> exact .rfl'
theorem callF_up {fs : List MFn} {gl : List Dv} {k k' : Nat} (q : k ≤ k') (f : Nat) (vs : List Dv) (h : Hc) : Le (callF fs gl k f vs h) (callF fs gl k' f vs h) := by
  obtain ⟨d, rfl⟩ := Nat.exists_eq_add_of_le q
  induction d with
  | zero => exact .rfl'
  | succ d ih => exact (ih (by omega)).trans (callF_le (k + d) f vs h)
/-! ### calls by a table -/
mutual
def beqD : Dv → Dv → Bool
  | .non, .non => true
  | .bl a, .bl b => a == b
  | .int i, .int j => decide (i = j)
  | .str a, .str b => a == b
  | .tup xs, .tup ys => beqDs xs ys
  | .lst xs, .lst ys => beqDs xs ys
  | .loc n, .loc m => n == m
  | _, _ => false
def beqDs : List Dv → List Dv → Bool
  | [], [] => true
  | x :: xs, y :: ys => beqD x y && beqDs xs ys
  | _, _ => false
end
mutual
theorem beqD_eq : ∀ (x y : Dv), beqD x y = true → x = y
  | .non, y, e => by cases y <;> first | rfl | (simp [beqD] at e)
  | .bl a, y, e => by
    cases y <;> simp only [beqD, beq_iff_eq, Bool.false_eq_true] at e
    rw [e]
  | .int a, y, e => by
    cases y <;> simp only [beqD, decide_eq_true_eq, Bool.false_eq_true] at e
    rw [e]
  | .str a, y, e => by
    cases y <;> simp only [beqD, beq_iff_eq, Bool.false_eq_true] at e
    rw [e]
  | .tup a, y, e => by
    cases y <;> simp only [beqD, Bool.false_eq_true] at e
    rw [beqDs_eq _ _ e]
  | .lst a, y, e => by
    cases y <;> simp only [beqD, Bool.false_eq_true] at e
    rw [beqDs_eq _ _ e]
  | .loc a, y, e => by
    cases y <;> simp only [beqD, beq_iff_eq, Bool.false_eq_true] at e
    rw [e]
theorem beqDs_eq : ∀ (x y : List Dv), beqDs x y = true → x = y
  | [], [], e => rfl
  | [], _ :: _, e => by simp [beqDs] at e
  | _ :: _, [], e => by simp [beqDs] at e
  | x :: xs, y :: ys, e => by
    simp only [beqDs, Bool.and_eq_true] at e
    rw [beqD_eq x y e.1, beqDs_eq xs ys e.2]
end
/-- a row: the def, what it is given, what it gives over each heap -/
structure Row where
  f : Nat
  vs : List Dv
  v : Dv
def findRow (f : Nat) (vs : List Dv) : List Row → Option Dv
  | [] => none
  | r :: rs => if r.f == f && beqDs r.vs vs then some r.v else findRow f vs rs
def tabC (rs : List Row) (cl : Nat → List Dv → Hc → Res Dv) (f : Nat) (vs : List Dv) (h : Hc) : Res Dv := match findRow f vs rs with
  | some v => if h.all (belowC h.length) then .ok v h else .bad
  | none => cl f vs h
inductive Rows (cl : Nat → List Dv → Hc → Res Dv) : List Row → Prop
  | nil : Rows cl []
  | cons {f : Nat} {vs : List Dv} {v : Dv} {rs : List Row} (e : ∀ h : Hc, h.all (belowC h.length) = true → cl f vs h = .ok v h) (r : Rows cl rs) : Rows cl (⟨f, vs, v⟩ :: rs)
theorem Rows.app {cl : Nat → List Dv → Hc → Res Dv} {a b : List Row} (p : Rows cl a) (q : Rows cl b) : Rows cl (a ++ b) := by
  induction p with
  | nil => exact q
  | cons e r ih => exact .cons e ih
theorem findRow_ok {cl : Nat → List Dv → Hc → Res Dv} {rs : List Row} (r : Rows cl rs) : ∀ {f : Nat} {vs : List Dv} {v : Dv}, findRow f vs rs = some v → ∀ h : Hc, h.all (belowC h.length) = true → cl f vs h = .ok v h := by
  induction r with
  | nil => intro f vs v e; cases e
  | cons e0 r ih =>
    intro f vs v e
    rw [findRow] at e
    split at e
    · rename_i z
      simp only [Bool.and_eq_true, beq_iff_eq] at z
      cases e
      rw [← z.1, ← beqDs_eq _ _ z.2]
      exact e0
    · exact ih e
theorem tabC_le {cl : Nat → List Dv → Hc → Res Dv} {rs : List Row} (r : Rows cl rs) (f : Nat) (vs : List Dv) (h : Hc) : Le (tabC rs cl f vs h) (cl f vs h) := by
  unfold tabC
  cases q : findRow f vs rs with
  | none => exact .rfl'
  | some v =>
    by_cases z : h.all (belowC h.length) = true
    · intro x g e
      simp only [z, if_true] at e
      cases e
      exact findRow_ok r q h z
    · intro x g e
      simp only [z, if_false] at e
      cases e
theorem ex_tab {cl : Nat → List Dv → Hc → Res Dv} {gl : List Dv} {rs : List Row} (r : Rows cl rs) {st : MS} {s : Env1} {h h' : Hc} {x : Fl} (e : ex (tabC rs cl) gl st s h = .ok x h') : ex cl gl st s h = .ok x h' := ex_le (tabC_le r) st s h x h' e
theorem exs_tab {cl : Nat → List Dv → Hc → Res Dv} {gl : List Dv} {rs : List Row} (r : Rows cl rs) {st : MSs} {s : Env1} {h h' : Hc} {x : Fl} (e : exs (tabC rs cl) gl st s h = .ok x h') : exs cl gl st s h = .ok x h' := exs_le (tabC_le r) st s h x h' e
theorem body_tab {cl : Nat → List Dv → Hc → Res Dv} {gl : List Dv} {rs : List Row} (r : Rows cl rs) {t : Tg} {b : MSs} {x : Dv} {s : Env1} {h h' : Hc} {f : Fl} (e : bodyF (tabC rs cl) gl t b x s h = .ok f h') : bodyF cl gl t b x s h = .ok f h' := by
  unfold bodyF at e ⊢
  cases q : tgD t x s with
  | none => rw [q] at e; cases e
  | some s2 =>
    rw [q] at e
    exact exs_le (tabC_le r) b s2 h f h' e
/-! ### a body statement by statement -/
def sHd : MSs → MS
  | .cons s _ => s
  | .nil => .pass
def sTl : MSs → MSs
  | .cons _ s => s
  | .nil => .nil
end Dn

set_option Elab.async false
set_option linter.all false
set_option maxRecDepth 100000
/-! the shared defs in the small language; X: where each stands in a law -/
namespace Dn
open PySem L2
structure Ix where
  alike : Nat := 0
  alike_in : Nat := 0
  alike_pieces : Nat := 0
  all_forms : Nat := 0
  all_kinds : Nat := 0
  all_maps : Nat := 0
  all_sets : Nat := 0
  all_shortest : Nat := 0
  all_ways : Nat := 0
  answer : Nat := 0
  answer_to : Nat := 0
  are_numbers : Nat := 0
  asked_at : Nat := 0
  backward : Nat := 0
  bad_row : Nat := 0
  begins : Nat := 0
  both : Nat := 0
  both_kinds : Nat := 0
  chain_between : Nat := 0
  chain_down : Nat := 0
  check_house : Nat := 0
  check_kinds : Nat := 0
  check_known : Nat := 0
  check_names : Nat := 0
  check_piece : Nat := 0
  check_places : Nat := 0
  check_some : Nat := 0
  check_state : Nat := 0
  common : Nat := 0
  common_kind : Nat := 0
  count_asked : Nat := 0
  count_free : Nat := 0
  cut_to : Nat := 0
  doubled : Nat := 0
  doubles : Nat := 0
  fact_of : Nat := 0
  facts_of : Nat := 0
  first_gone : Nat := 0
  first_place : Nat := 0
  fits_here : Nat := 0
  form_asked : Nat := 0
  form_at : Nat := 0
  form_back : Nat := 0
  form_between : Nat := 0
  form_by : Nat := 0
  form_by_sheet : Nat := 0
  form_count : Nat := 0
  form_in : Nat := 0
  form_in_stretch : Nat := 0
  form_of : Nat := 0
  form_renamed : Nat := 0
  form_text : Nat := 0
  form_that_answers : Nat := 0
  form_then : Nat := 0
  form_without : Nat := 0
  forms_of : Nat := 0
  gones : Nat := 0
  halves : Nat := 0
  hardest : Nat := 0
  holds : Nat := 0
  how_many_among : Nat := 0
  how_many_answer : Nat := 0
  how_many_between : Nat := 0
  how_many_forms : Nat := 0
  how_many_in : Nat := 0
  how_many_long : Nat := 0
  how_many_short : Nat := 0
  how_many_starts : Nat := 0
  how_many_stops : Nat := 0
  how_often : Nat := 0
  how_short : Nat := 0
  idle_places : Nat := 0
  idle_stretches : Nat := 0
  is_book : Nat := 0
  is_chain : Nat := 0
  is_form : Nat := 0
  is_house : Nat := 0
  is_idle : Nat := 0
  is_kind : Nat := 0
  is_known : Nat := 0
  is_machine : Nat := 0
  is_middle : Nat := 0
  is_name : Nat := 0
  is_number : Nat := 0
  is_of : Nat := 0
  is_part : Nat := 0
  is_parting : Nat := 0
  is_plan : Nat := 0
  is_question : Nat := 0
  is_row : Nat := 0
  is_sheet : Nat := 0
  is_shortening : Nat := 0
  is_way : Nat := 0
  judged_by : Nat := 0
  kind_in : Nat := 0
  kind_with : Nat := 0
  kinds_of : Nat := 0
  known_letters : Nat := 0
  l_acts : Nat := 0
  l_again_right : Nat := 0
  l_ahead : Nat := 0
  l_alike : Nat := 0
  l_all_plans : Nat := 0
  l_among : Nat := 0
  l_answers_right : Nat := 0
  l_any_machine : Nat := 0
  l_ask : Nat := 0
  l_asked : Nat := 0
  l_asked_right : Nat := 0
  l_back : Nat := 0
  l_back_right : Nat := 0
  l_bad : Nat := 0
  l_bare : Nat := 0
  l_bent : Nat := 0
  l_beside : Nat := 0
  l_both_right : Nat := 0
  l_busy : Nat := 0
  l_caught : Nat := 0
  l_cells : Nat := 0
  l_chosen : Nat := 0
  l_common : Nat := 0
  l_count : Nat := 0
  l_counted : Nat := 0
  l_desk_right : Nat := 0
  l_do : Nat := 0
  l_done : Nat := 0
  l_doors_right : Nat := 0
  l_drawn_form : Nat := 0
  l_drawn_row : Nat := 0
  l_every : Nat := 0
  l_fact_house : Nat := 0
  l_facts : Nat := 0
  l_first : Nat := 0
  l_first_ones : Nat := 0
  l_fits : Nat := 0
  l_form : Nat := 0
  l_form_in : Nat := 0
  l_form_right : Nat := 0
  l_form_rows : Nat := 0
  l_forms : Nat := 0
  l_goal_right : Nat := 0
  l_gone : Nat := 0
  l_good : Nat := 0
  l_great_right : Nat := 0
  l_halves : Nat := 0
  l_house : Nat := 0
  l_house_right : Nat := 0
  l_houses : Nat := 0
  l_idle : Nat := 0
  l_idle_right : Nat := 0
  l_is_machine : Nat := 0
  l_is_nth : Nat := 0
  l_is_part : Nat := 0
  l_is_pieces : Nat := 0
  l_is_plan : Nat := 0
  l_judged : Nat := 0
  l_just : Nat := 0
  l_kept : Nat := 0
  l_kept_right : Nat := 0
  l_kinds : Nat := 0
  l_kinds_back : Nat := 0
  l_knows : Nat := 0
  l_last_new : Nat := 0
  l_leads : Nat := 0
  l_least : Nat := 0
  l_led : Nat := 0
  l_less : Nat := 0
  l_letters : Nat := 0
  l_letters_right : Nat := 0
  l_like : Nat := 0
  l_line : Nat := 0
  l_lines : Nat := 0
  l_lines_in : Nat := 0
  l_lines_right : Nat := 0
  l_lists : Nat := 0
  l_many_right : Nat := 0
  l_map : Nat := 0
  l_mixed : Nat := 0
  l_names : Nat := 0
  l_near : Nat := 0
  l_numbered : Nat := 0
  l_numbers_right : Nat := 0
  l_of : Nat := 0
  l_once : Nat := 0
  l_one_right : Nat := 0
  l_or_dash : Nat := 0
  l_order : Nat := 0
  l_pair : Nat := 0
  l_pair_right : Nat := 0
  l_pairs : Nat := 0
  l_part : Nat := 0
  l_part_form : Nat := 0
  l_parts_right : Nat := 0
  l_piece_right : Nat := 0
  l_place : Nat := 0
  l_place_right : Nat := 0
  l_plan : Nat := 0
  l_plan_in : Nat := 0
  l_plan_of : Nat := 0
  l_plan_right : Nat := 0
  l_raised : Nat := 0
  l_rank : Nat := 0
  l_regular_right : Nat := 0
  l_row : Nat := 0
  l_row_right : Nat := 0
  l_rows : Nat := 0
  l_run_right : Nat := 0
  l_same : Nat := 0
  l_same_done : Nat := 0
  l_say : Nat := 0
  l_sets : Nat := 0
  l_sheet : Nat := 0
  l_sheet_right : Nat := 0
  l_short : Nat := 0
  l_shorter : Nat := 0
  l_sides : Nat := 0
  l_signs : Nat := 0
  l_since : Nat := 0
  l_some_book : Nat := 0
  l_some_letters : Nat := 0
  l_spot : Nat := 0
  l_spot_right : Nat := 0
  l_starts : Nat := 0
  l_state_right : Nat := 0
  l_step : Nat := 0
  l_steps : Nat := 0
  l_subsets : Nat := 0
  l_tag : Nat := 0
  l_take : Nat := 0
  l_tellings : Nat := 0
  l_tells : Nat := 0
  l_text_right : Nat := 0
  l_there_and_back : Nat := 0
  l_things : Nat := 0
  l_thirds : Nat := 0
  l_three_right : Nat := 0
  l_told : Nat := 0
  l_told_facts : Nat := 0
  l_told_right : Nat := 0
  l_turned : Nat := 0
  l_two_right : Nat := 0
  l_twos : Nat := 0
  l_walk : Nat := 0
  l_ways : Nat := 0
  l_which : Nat := 0
  l_whole : Nat := 0
  l_within : Nat := 0
  l_worst : Nat := 0
  last_new : Nat := 0
  last_place : Nat := 0
  law_of : Nat := 0
  least_kind : Nat := 0
  least_rows : Nat := 0
  led : Nat := 0
  left_at : Nat := 0
  left_out : Nat := 0
  lefts : Nat := 0
  lengths_for : Nat := 0
  less : Nat := 0
  letter_at : Nat := 0
  letters_at : Nat := 0
  letters_by : Nat := 0
  letters_in : Nat := 0
  letters_of : Nat := 0
  letters_told : Nat := 0
  lies_within : Nat := 0
  line_in : Nat := 0
  long_of : Nat := 0
  longest_shortest : Nat := 0
  longs_of : Nat := 0
  loose_places : Nat := 0
  map_of : Nat := 0
  maps_of : Nat := 0
  middle : Nat := 0
  news : Nat := 0
  nth_among : Nat := 0
  nth_between : Nat := 0
  nth_form : Nat := 0
  nth_long : Nat := 0
  number_among : Nat := 0
  number_between : Nat := 0
  number_long : Nat := 0
  number_of : Nat := 0
  only_letters : Nat := 0
  part_in : Nat := 0
  part_of : Nat := 0
  parting_kinds : Nat := 0
  parting_question : Nat := 0
  plan_by : Nat := 0
  plan_of : Nat := 0
  plan_text : Nat := 0
  possible_answers : Nat := 0
  product : Nat := 0
  product_of : Nat := 0
  rank_form : Nat := 0
  rank_left : Nat := 0
  rank_right : Nat := 0
  reached : Nat := 0
  read_form : Nat := 0
  read_plan : Nat := 0
  read_sheet : Nat := 0
  regular_house : Nat := 0
  renamed : Nat := 0
  replies : Nat := 0
  reply_to : Nat := 0
  right_at : Nat := 0
  rises : Nat := 0
  row_making : Nat := 0
  same_here : Nat := 0
  same_start : Nat := 0
  same_stop : Nat := 0
  set_order : Nat := 0
  sets_of : Nat := 0
  sheet_of : Nat := 0
  sheet_text : Nat := 0
  shortenings : Nat := 0
  shortest : Nat := 0
  spot_of : Nat := 0
  stages : Nat := 0
  stops : Nat := 0
  stretch_in : Nat := 0
  stretch_of : Nat := 0
  swallows : Nat := 0
  thinned : Nat := 0
  told_at : Nat := 0
  told_by : Nat := 0
  tupled : Nat := 0
  undoubled : Nat := 0
  values_in : Nat := 0
  way_to : Nat := 0
  ways_to : Nat := 0
  without : Nat := 0
  without_doubles : Nat := 0
  yes_or_no : Nat := 0
  gALPHABET : Nat := 0
  gFOUR : Nat := 0
  gWAYS : Nat := 0
  gENDS : Nat := 0
  gAHEAD : Nat := 0
  gWHICH : Nat := 0
  gCAME : Nat := 0
  gBEHIND : Nat := 0
  gTRIPLE : Nat := 0
  gPAIR : Nat := 0
  gNAMES : Nat := 0
  gDASH : Nat := 0
  gDOT : Nat := 0
  gFEED : Nat := 0
/-! _law_take (k00 k01 k02 k03 k04 k05 k08 k09 k10 k11 k12 k13 k14 k15 k16 k17 k18 k19 k20 k21 k22 k23 k24 k25 k26 k27 k28 k29 k30 k31 k32 k33 k34 k35 k36 k37 k38 k39 k40 k41 k42 k43 k44 k45 k46 k47 k48 k49 k50 k51 k52 k53 k54 k55 k56 k60 k61 k62 k63 k64 k65 k66 k67 k68 k69 k70 k71 k72) -/
def B_l_take (X : Ix) : MSs := (.cons (.ite (.cmp .gt (.idx (.var 0) (.cst (.int 0))) (.cst (.int 0))) (.cons (.asg (.name 5) (.bin .mod (.bi .int (.cons (.idx (.var 0) (.cst (.int 0))) .nil)) (.var 1)))
  (.cons (.seti (.var 0) (.cst (.int 0)) (.bin .fdiv (.idx (.var 0) (.cst (.int 0))) (.var 1)))
  (.cons (.ret (.var 5))
  .nil))) .nil)
  (.cons (.seti (.var 0) (.cst (.int 2)) (.bin .add (.idx (.var 0) (.cst (.int 2))) (.cst (.int 1))))
  (.cons (.asg (.name 2) (.bin .mod (.bi .int (.cons (.bin .mul (.bin .add (.idx (.var 0) (.cst (.int 1))) (.bin .mul (.cst (.int 48271)) (.idx (.var 0) (.cst (.int 2))))) (.bin .add (.cst (.int 39373)) (.idx (.var 0) (.cst (.int 2))))) .nil)) (.cst (.int 2147483647))))
  (.cons (.asg (.name 3) (.bin .add (.bin .mod (.bi .int (.cons (.var 2) .nil)) (.cst (.int 40009))) (.cst (.int 7))))
  (.cons (.asg (.name 4) (.bin .mod (.bi .int (.cons (.bin .mul (.bin .add (.bin .add (.var 2) (.idx (.var 0) (.cst (.int 2)))) (.bin .fdiv (.idx (.var 0) (.cst (.int 1))) (.cst (.int 1000003)))) (.var 3)) .nil)) (.cst (.int 2147483629))))
  (.cons (.ret (.bin .mod (.bi .int (.cons (.bin .fdiv (.bin .mod (.bi .int (.cons (.bin .add (.bin .mul (.var 4) (.cst (.int 48271))) (.var 2)) .nil)) (.cst (.int 2147483587))) (.cst (.int 64))) .nil)) (.var 1)))
  .nil))))))
def F_l_take (X : Ix) : MFn := ⟨2, 6, B_l_take X⟩
/-! _law_cells (k00 k01 k02 k03 k04 k05 k06 k07 k08 k09 k10 k11 k12 k13 k14 k15 k16 k17 k18 k19 k20 k21 k22 k23 k24 k25 k26 k27 k28 k29 k30 k31 k32 k33 k34 k35 k36 k37 k38 k39 k40 k41 k42 k43 k44 k45 k46 k47 k48 k49 k50 k51 k52 k53 k54 k55 k56 k60 k61 k62 k63 k64 k65 k66 k67 k68 k69 k70 k71 k72) -/
def B_l_cells_L1 (X : Ix) : MSs := (.cons (.asg (.name 5) (.bin .mod (.bi .int (.cons (.var 3) .nil)) (.var 1)))
  (.cons (.seti (.var 2) (.var 5) (.bin .add (.idx (.var 2) (.var 5)) (.bin .mul (.var 4) (.bin .add (.var 3) (.cst (.int 2))))))
  .nil))
def B_l_cells (X : Ix) : MSs := (.cons (.asg (.name 2) (.bop false (.cons (.bi .listN (.cons (.sl (.var 0) .none (.some (.var 1))) .nil)) (.cons (.new (.cons (.cst (.int 0)) .nil)) .nil))))
  (.cons (.forr (.tup [3, 4]) (.enum (.sl (.var 0) (.some (.var 1)) (.some (.cst (.int 63))))) (B_l_cells_L1 X))
  (.cons (.ret (.frz (.var 2)))
  .nil)))
def F_l_cells (X : Ix) : MFn := ⟨2, 6, B_l_cells X⟩
/-! _law_of (k00 k01 k02 k03 k04 k05 k06 k07 k08 k09 k10 k11 k12 k13 k14 k15 k16 k17 k18 k19 k21 k22 k23 k24 k25 k26 k27 k28 k29 k30 k31 k32 k33 k34 k35 k36 k37 k39 k41 k42 k43 k44 k46 k47 k49 k50 k51 k52 k53 k54 k55 k56 k60 k61 k62 k63 k64 k65 k66 k67 k68 k69 k70 k71 k72) -/
def B_l_of (X : Ix) : MSs := (.cons (.ret (.idx (.var 1) (.call X.l_take (.cons (.var 0) (.cons (.bi .len (.cons (.var 1) .nil)) .nil)) .nil [0, 1])))
  .nil)
def F_l_of (X : Ix) : MFn := ⟨2, 2, B_l_of X⟩
/-! _law_same (k00 k01 k02 k03 k04 k05 k06 k07 k08 k09 k10 k11 k12 k13 k14 k15 k16 k17 k18 k19 k20 k21 k22 k23 k24 k25 k26 k27 k28 k29 k30 k31 k32 k33 k34 k35 k36 k37 k38 k39 k40 k41 k42 k43 k44 k45 k46 k47 k48 k49 k50 k51 k52 k53 k54 k55 k56 k60 k61 k62 k63 k64 k65 k66 k67 k68 k69 k70 k71 k72) -/
def B_l_same (X : Ix) : MSs := (.cons (.ite (.bi1 (.isi2 .list .tuple) (.var 1)) (.cons (.ite (.bop false (.cons (.cmp .ne (.bi1 (.isi .list) (.var 0)) (.bi1 (.isi .list) (.var 1))) (.cons (.cmp .ne (.bi1 (.isi .tuple) (.var 0)) (.bi1 (.isi .tuple) (.var 1))) .nil))) (.cons (.ret (.cst (.bl false)))
  .nil) .nil)
  (.cons (.ret (.bop true (.cons (.cmp .eq (.bi .len (.cons (.var 0) .nil)) (.bi .len (.cons (.var 1) .nil))) (.cons (.bi .all (.cons (.comp (.tup [2, 3]) [2, 3] (.zip (.var 0) (.var 1)) .none (.call X.l_same (.cons (.var 2) (.cons (.var 3) .nil)) .nil [0, 1])) .nil)) .nil))))
  .nil)) .nil)
  (.cons (.ite (.bop false (.cons (.isn true (.var 1)) (.cons (.bi1 (.isi2 .bool .str) (.var 1)) .nil))) (.cons (.ret (.bop true (.cons (.cmp .eq (.var 0) (.var 1)) (.cons (.cmp .eq (.bi1 (.isi .bool) (.var 0)) (.bi1 (.isi .bool) (.var 1))) (.cons (.cmp .eq (.isn true (.var 0)) (.isn true (.var 1))) .nil)))))
  .nil) .nil)
  (.cons (.ret (.bop true (.cons (.bi1 (.isi .int) (.var 0)) (.cons (.not (.bi1 (.isi .bool) (.var 0))) (.cons (.cmp .eq (.var 0) (.var 1)) .nil)))))
  .nil)))
def F_l_same (X : Ix) : MFn := ⟨2, 4, B_l_same X⟩
/-! letters_of (k01 k06 k07 k08 k09 k11 k18 k19 k21 k23 k24 k25 k30 k31 k32 k33 k43 k46 k47 k54 k55 k56 k60 k61 k62 k63 k64 k65 k66 k68 k69 k70 k71 k72) -/
def B_letters_of (X : Ix) : MSs := (.cons (.ret (.mt .join (.cst (.str [])) (.cons (.bi1 .sset (.var 0)) .nil)))
  .nil)
def F_letters_of (X : Ix) : MFn := ⟨1, 1, B_letters_of X⟩
/-! news (k01 k02 k06 k07 k08 k09 k10 k12 k13 k14 k15 k16 k17 k18 k19 k29 k30 k31 k32 k34 k35 k37 k43 k46 k47 k56 k60 k61 k62 k63 k64 k65 k66 k67 k68 k69 k70 k71 k72) -/
def B_news_L1 (X : Ix) : MSs := (.cons (.ite (.cmp .nin (.var 2) (.var 1)) (.cons (.aug 1 .add (.var 2))
  .nil) .nil)
  .nil)
def B_news (X : Ix) : MSs := (.cons (.asg (.name 1) (.cst (.str [])))
  (.cons (.forr (.name 2) (.seq (.var 0)) (B_news_L1 X))
  (.cons (.ret (.var 1))
  .nil)))
def F_news (X : Ix) : MFn := ⟨1, 3, B_news X⟩
/-! gones (k01 k02 k06 k07 k08 k09 k10 k12 k13 k14 k15 k16 k17 k18 k19 k29 k30 k31 k32 k34 k35 k37 k43 k46 k47 k56 k60 k61 k62 k63 k64 k65 k66 k67 k68 k69 k70 k71 k72) -/
def B_gones (X : Ix) : MSs := (.cons (.ret (.rev (.call X.news (.cons (.rev (.var 0)) .nil) .nil [0])))
  .nil)
def F_gones (X : Ix) : MFn := ⟨1, 1, B_gones X⟩
/-! _law_mixed (k01 k02 k03 k04 k05 k06 k07 k08 k09 k10 k11 k12 k13 k14 k15 k16 k17 k18 k19 k21 k22 k23 k24 k25 k26 k27 k28 k29 k30 k31 k32 k33 k34 k35 k36 k37 k38 k39 k40 k41 k42 k43 k44 k45 k46 k47 k49 k50 k51 k52 k53 k54 k55 k56 k60 k61 k62 k63 k64 k65 k66 k67 k68 k69 k70 k71 k72) -/
def B_l_mixed_L1 (X : Ix) : MSs := (.cons (.asg (.name 5) (.call X.l_take (.cons (.var 0) (.cons (.bi .len (.cons (.var 3) .nil)) .nil)) .nil [0, 1]))
  (.cons (.expr (.mt .append (.var 4) (.cons (.idx (.var 3) (.var 5)) .nil)))
  (.cons (.asg (.name 3) (.bin .add (.sl (.var 3) .none (.some (.var 5))) (.sl (.var 3) (.some (.bin .add (.var 5) (.cst (.int 1)))) .none)))
  .nil)))
def B_l_mixed (X : Ix) : MSs := (.cons (.par [3, 4] (.cons (.bi .list (.cons (.var 1) .nil)) (.cons (.new .nil) .nil)))
  (.cons (.forr (.name 2) (.range1 (.bi .len (.cons (.var 1) .nil))) (B_l_mixed_L1 X))
  (.cons (.ret (.frz (.var 4)))
  .nil)))
def F_l_mixed (X : Ix) : MFn := ⟨2, 6, B_l_mixed X⟩
/-! _law_plan (k01 k02 k03 k04 k05 k06 k07 k08 k09 k10 k13 k14 k15 k16 k17 k18 k21 k30 k31 k32 k34 k35 k36 k37 k50 k51 k54 k55 k60 k61 k62 k63 k64 k66 k67 k70 k72) -/
def B_l_plan (X : Ix) : MSs := (.cons (.asg (.name 3) (.sl (.call X.l_mixed (.cons (.var 0) (.cons (.bi .list (.cons (.cst (.str [97, 98, 99, 100, 101, 102, 103, 104])) .nil)) .nil)) .nil [0, 1]) .none (.some (.var 1))))
  (.cons (.ret (.mt .join (.cst (.str [])) (.cons (.comp (.name 4) [4] (.range1 (.call X.l_take (.cons (.var 0) (.cons (.bin .add (.var 2) (.cst (.int 1))) .nil)) .nil [0, 1])) .none (.call X.l_of (.cons (.var 0) (.cons (.var 3) .nil)) .nil [0, 1])) .nil)))
  .nil))
def F_l_plan (X : Ix) : MFn := ⟨3, 5, B_l_plan X⟩
/-! check_some (k02 k06 k07 k08 k09 k10 k12 k13 k14 k15 k16 k17 k18 k19 k29 k30 k31 k32 k34 k35 k37 k43 k46 k47 k56 k60 k61 k62 k63 k64 k65 k66 k67 k68 k69 k70 k71 k72) -/
def B_check_some (X : Ix) : MSs := (.cons (.ite (.cmp .eq (.var 0) (.cst (.str []))) (.cons .never
  .nil) .nil)
  .nil)
def F_check_some (X : Ix) : MFn := ⟨1, 1, B_check_some X⟩
/-! last_new (k02 k06 k07 k08 k09 k10 k12 k13 k14 k15 k16 k17 k18 k19 k29 k30 k31 k32 k34 k35 k37 k43 k46 k47 k56 k60 k61 k62 k63 k64 k65 k66 k67 k68 k69 k70 k71 k72) -/
def B_last_new (X : Ix) : MSs := (.cons (.expr (.call X.check_some (.cons (.var 0) .nil) .nil [0]))
  (.cons (.asg (.name 1) (.idx (.call X.news (.cons (.var 0) .nil) .nil [0]) (.neg (.cst (.int 1)))))
  (.cons (.ret (.tup (.cons (.sl (.var 0) .none (.some (.mt .find (.var 0) (.cons (.var 1) .nil)))) (.cons (.var 1) .nil))))
  .nil)))
def F_last_new (X : Ix) : MFn := ⟨1, 2, B_last_new X⟩
/-! first_gone (k02 k06 k07 k08 k09 k10 k12 k13 k14 k15 k16 k17 k18 k19 k29 k30 k31 k32 k34 k35 k37 k43 k46 k47 k56 k60 k61 k62 k63 k64 k65 k66 k67 k68 k69 k70 k71 k72) -/
def B_first_gone (X : Ix) : MSs := (.cons (.expr (.call X.check_some (.cons (.var 0) .nil) .nil [0]))
  (.cons (.asg (.name 1) (.idx (.call X.gones (.cons (.var 0) .nil) .nil [0]) (.cst (.int 0))))
  (.cons (.ret (.tup (.cons (.var 1) (.cons (.sl (.var 0) (.some (.bin .add (.mt .rfind (.var 0) (.cons (.var 1) .nil)) (.cst (.int 1)))) .none) .nil))))
  .nil)))
def F_first_gone (X : Ix) : MFn := ⟨1, 2, B_first_gone X⟩
/-! backward (k03 k61 k62 k67 k69 k70) -/
def B_backward (X : Ix) : MSs := (.cons (.ret (.rev (.var 0)))
  .nil)
def F_backward (X : Ix) : MFn := ⟨1, 1, B_backward X⟩
/-! without (k03 k61 k70) -/
def B_without (X : Ix) : MSs := (.cons (.ret (.mt .join (.cst (.str [])) (.cons (.comp (.name 2) [2] (.seq (.var 0)) (.some (.cmp .ne (.var 2) (.var 1))) (.var 2)) .nil)))
  .nil)
def F_without (X : Ix) : MFn := ⟨2, 3, B_without X⟩
/-! undoubled (k03 k61) -/
def B_undoubled (X : Ix) : MSs := (.cons (.ret (.mt .join (.cst (.str [])) (.cons (.comp (.tup [1, 2]) [1, 2] (.enum (.var 0)) (.some (.bop false (.cons (.cmp .eq (.var 1) (.cst (.int 0))) (.cons (.cmp .ne (.idx (.var 0) (.bin .sub (.var 1) (.cst (.int 1)))) (.var 2)) .nil)))) (.var 2)) .nil)))
  .nil)
def F_undoubled (X : Ix) : MFn := ⟨1, 3, B_undoubled X⟩
/-! check_names (k04 k15 k61 k62 k69) -/
def B_check_names_L1 (X : Ix) : MSs := (.cons (.ite (.cmp .nin (.var 3) (.var 1)) (.cons .never
  .nil) .nil)
  .nil)
def B_check_names (X : Ix) : MSs := (.cons (.ite (.bop false (.cons (.cmp .ne (.bi .len (.cons (.var 1) .nil)) (.bi .len (.cons (.var 2) .nil))) (.cons (.cmp .ne (.bi1 .lset (.var 1)) (.bi .len (.cons (.var 1) .nil))) (.cons (.cmp .ne (.bi1 .lset (.var 2)) (.bi .len (.cons (.var 2) .nil))) .nil)))) (.cons .never
  .nil) .nil)
  (.cons (.forr (.name 3) (.seq (.var 0)) (B_check_names_L1 X))
  .nil))
def F_check_names (X : Ix) : MFn := ⟨3, 4, B_check_names X⟩
/-! renamed (k04 k15 k61 k62 k69) -/
def B_renamed (X : Ix) : MSs := (.cons (.expr (.call X.check_names (.cons (.var 0) (.cons (.var 1) (.cons (.var 2) .nil))) .nil [0, 1, 2]))
  (.cons (.ret (.mt .join (.cst (.str [])) (.cons (.comp (.name 3) [3] (.seq (.var 0)) .none (.idx (.var 2) (.mt .find (.var 1) (.cons (.var 3) .nil)))) .nil)))
  .nil))
def F_renamed (X : Ix) : MFn := ⟨3, 4, B_renamed X⟩
/-! is_plan (k05 k17 k26 k54 k55 k56 k65 k71 k72) -/
def B_is_plan (X : Ix) : MSs := (.cons (.ret (.bop true (.cons (.bi1 (.isi .str) (.var 0)) (.cons (.bi .all (.cons (.comp (.name 1) [1] (.seq (.var 0)) .none (.cmp .inn (.var 1) (.glb X.gALPHABET))) .nil)) .nil))))
  .nil)
def F_is_plan (X : Ix) : MFn := ⟨1, 2, B_is_plan X⟩
/-! _law_kinds (k05 k06 k07 k08 k09) -/
def B_l_kinds (X : Ix) : MSs := (.cons (.asg (.name 0) (.lst (.cons (.cst (.str [102, 105, 114, 115, 116])) (.cons (.cst (.str [108, 97, 115, 116])) (.cons (.cst (.str [101, 110, 100, 115])) (.cons (.cst (.str [108, 101, 116, 116, 101, 114, 115])) (.cons (.cst (.str [102, 105, 114, 115, 116, 32, 108, 101, 116, 116, 101, 114, 115])) (.cons (.cst (.str [108, 97, 115, 116, 32, 108, 101, 116, 116, 101, 114, 115])) (.cons (.cst (.str [101, 110, 100, 115, 32, 108, 101, 116, 116, 101, 114, 115])) (.cons (.cst (.str [110, 101, 119, 115])) (.cons (.cst (.str [103, 111, 110, 101, 115])) .nil)))))))))))
  (.cons (.ret (.bin .add (.var 0) (.lst (.cons (.cst (.str [110, 101, 119, 115, 32, 108, 97, 115, 116])) (.cons (.cst (.str [102, 105, 114, 115, 116, 32, 103, 111, 110, 101, 115])) (.cons (.cst (.str [110, 101, 119, 115, 32, 103, 111, 110, 101, 115])) (.cons (.cst (.str [97, 108, 108])) .nil)))))))
  .nil))
def F_l_kinds (X : Ix) : MFn := ⟨0, 1, B_l_kinds X⟩
/-! form_by (k06 k07 k08 k09 k10 k12 k13 k14 k15 k16 k17 k18 k19 k29 k31 k32 k34 k35 k37 k43 k46 k47 k56 k60 k61 k62 k63 k64 k65 k66 k67 k68 k69 k70 k71 k72) -/
def B_form_by (X : Ix) : MSs := (.cons (.ite (.cmp .eq (.var 0) (.cst (.str []))) (.cons (.ret (.tup .nil))
  .nil) .nil)
  (.cons (.ite (.cmp .nin (.var 0) (.var 1)) (.cons (.asg (.tup [2, 3]) (.call X.last_new (.cons (.var 0) .nil) .nil [0]))
  (.cons (.asg (.tup [4, 5]) (.call X.first_gone (.cons (.var 0) .nil) .nil [0]))
  (.cons (.seti (.var 1) (.var 0) (.tup (.cons (.call X.form_by (.cons (.var 2) (.cons (.var 1) .nil)) .nil [0, 1]) (.cons (.var 3) (.cons (.var 4) (.cons (.call X.form_by (.cons (.var 5) (.cons (.var 1) .nil)) .nil [0, 1]) .nil))))))
  .nil))) .nil)
  (.cons (.ret (.idx (.var 1) (.var 0)))
  .nil)))
def F_form_by (X : Ix) : MFn := ⟨2, 6, B_form_by X⟩
/-! form_of (k06 k07 k08 k09 k10 k12 k13 k14 k15 k16 k17 k18 k19 k29 k31 k32 k34 k35 k37 k43 k46 k47 k56 k60 k61 k62 k63 k64 k65 k66 k67 k68 k69 k70 k71 k72) -/
def B_form_of (X : Ix) : MSs := (.cons (.ret (.call X.form_by (.cons (.var 0) (.cons .dnew .nil)) .nil [0, 1]))
  .nil)
def F_form_of (X : Ix) : MFn := ⟨1, 1, B_form_of X⟩
/-! fact_of (k06 k07 k08 k09 k43 k56 k60 k61 k68 k70 k71 k72) -/
def B_fact_of (X : Ix) : MSs := (.cons (.ite (.cmp .eq (.var 0) (.cst (.str [102, 105, 114, 115, 116]))) (.cons (.ret (.sl (.var 1) .none (.some (.cst (.int 1)))))
  .nil) .nil)
  (.cons (.ite (.cmp .eq (.var 0) (.cst (.str [108, 97, 115, 116]))) (.cons (.ret (.sl (.var 1) (.some (.neg (.cst (.int 1)))) .none))
  .nil) .nil)
  (.cons (.ite (.cmp .eq (.var 0) (.cst (.str [108, 101, 116, 116, 101, 114, 115]))) (.cons (.ret (.call X.letters_of (.cons (.var 1) .nil) .nil [0]))
  .nil) .nil)
  (.cons (.ite (.cmp .eq (.var 0) (.cst (.str [110, 101, 119, 115]))) (.cons (.ret (.call X.news (.cons (.var 1) .nil) .nil [0]))
  .nil) .nil)
  (.cons (.ret (.ite (.cmp .eq (.var 0) (.cst (.str [103, 111, 110, 101, 115]))) (.call X.gones (.cons (.var 1) .nil) .nil [0]) (.call X.form_of (.cons (.var 1) .nil) .nil [0])))
  .nil)))))
def F_fact_of (X : Ix) : MFn := ⟨2, 2, B_fact_of X⟩
/-! alike_in (k06 k07 k08 k09 k56 k60 k61 k68 k70 k71 k72) -/
def B_alike_in (X : Ix) : MSs := (.cons (.ret (.cmp .eq (.call X.facts_of (.cons (.var 0) (.cons (.var 1) .nil)) .nil [0, 1]) (.call X.facts_of (.cons (.var 0) (.cons (.var 2) .nil)) .nil [0, 1])))
  .nil)
def F_alike_in (X : Ix) : MFn := ⟨3, 3, B_alike_in X⟩
/-! _law_last_new (k06 k07 k10 k11 k12 k13 k14 k15 k16 k17 k18 k19 k21 k22 k23 k24 k25 k29 k30 k31 k32 k33 k34 k35 k36 k37 k44 k46 k47 k48 k49 k51 k52 k53 k54 k55 k56 k60 k72) -/
def B_l_last_new (X : Ix) : MSs := (.cons (.asg (.name 1) (.comp (.name 2) [2] (.seq (.bi1 .sset (.var 0))) .none (.mt .find (.var 0) (.cons (.var 2) .nil))))
  (.cons (.ret (.tup (.cons (.sl (.var 0) .none (.some (.bi .max (.cons (.var 1) .nil)))) (.cons (.idx (.var 0) (.bi .max (.cons (.var 1) .nil))) .nil))))
  .nil))
def F_l_last_new (X : Ix) : MFn := ⟨1, 3, B_l_last_new X⟩
/-! _law_form (k06 k07 k10 k11 k12 k13 k14 k15 k16 k17 k18 k19 k21 k22 k23 k24 k25 k29 k31 k32 k33 k34 k35 k36 k37 k44 k46 k47 k48 k49 k51 k52 k53 k54 k55 k56 k60 k72) -/
def B_l_form (X : Ix) : MSs := (.cons (.ite (.cmp .eq (.var 0) (.cst (.str []))) (.cons (.ret (.tup .nil))
  .nil) .nil)
  (.cons (.par [1, 2] (.cons (.call X.l_last_new (.cons (.var 0) .nil) .nil [0]) (.cons (.call X.l_last_new (.cons (.rev (.var 0)) .nil) .nil [0]) .nil)))
  (.cons (.ret (.tup (.cons (.call X.l_form (.cons (.idx (.var 1) (.cst (.int 0))) .nil) .nil [0]) (.cons (.idx (.var 1) (.cst (.int 1))) (.cons (.idx (.var 2) (.cst (.int 1))) (.cons (.call X.l_form (.cons (.rev (.idx (.var 2) (.cst (.int 0)))) .nil) .nil [0]) .nil))))))
  .nil)))
def F_l_form (X : Ix) : MFn := ⟨1, 3, B_l_form X⟩
/-! _law_near (k06 k07 k08 k10 k13 k16 k17 k18 k31 k34 k35 k36 k37 k44 k51 k52 k60 k61 k64 k66 k68 k70 k72) -/
def B_l_near_L1 (X : Ix) : MSs := (.cons (.asg (.name 3) (.lst (.cons (.call X.l_take (.cons (.var 0) (.cons (.bin .add (.bi .len (.cons (.var 1) .nil)) (.cst (.int 1))) .nil)) .nil [0, 1]) (.cons (.call X.l_take (.cons (.var 0) (.cons (.bin .add (.bi .len (.cons (.var 1) .nil)) (.cst (.int 1))) .nil)) .nil [0, 1]) .nil))))
  (.cons (.asg (.tup [5, 6]) (.bi .sorted (.cons (.var 3) .nil)))
  (.cons (.asg (.name 4) (.call X.l_take (.cons (.var 0) (.cons (.cst (.int 5)) .nil)) .nil [0, 1]))
  (.cons (.ite (.bop true (.cons (.cmp .lt (.var 4) (.cst (.int 3))) (.cons (.cmp .lt (.bi .len (.cons (.var 1) .nil)) (.cst (.int 60))) .nil))) (.cons (.asg (.name 7) (.sl (.var 1) (.some (.var 5)) (.some (.var 6))))
  (.cons (.asg (.name 1) (.bin .add (.bin .add (.sl (.var 1) .none (.some (.var 6))) (.var 7)) (.sl (.var 1) (.some (.var 6)) .none)))
  .nil)) (.cons (.ite (.bop true (.cons (.cmp .eq (.var 4) (.cst (.int 3))) (.cons (.cmp .ne (.var 1) (.cst (.str []))) .nil))) (.cons (.asg (.name 8) (.call X.l_take (.cons (.var 0) (.cons (.bi .len (.cons (.var 1) .nil)) .nil)) .nil [0, 1]))
  (.cons (.asg (.name 1) (.bin .add (.sl (.var 1) .none (.some (.var 8))) (.sl (.var 1) (.some (.bin .add (.var 8) (.cst (.int 1)))) .none)))
  .nil)) (.cons (.ite (.cmp .ne (.var 1) (.cst (.str []))) (.cons (.asg (.name 1) (.bin .add (.bin .add (.sl (.var 1) .none (.some (.var 5))) (.call X.l_of (.cons (.var 0) (.cons (.var 1) .nil)) .nil [0, 1])) (.sl (.var 1) (.some (.var 5)) .none)))
  .nil) .nil)
  .nil))
  .nil))
  .nil))))
def B_l_near (X : Ix) : MSs := (.cons (.forr (.name 2) (.range1 (.bin .add (.cst (.int 1)) (.call X.l_take (.cons (.var 0) (.cons (.cst (.int 4)) .nil)) .nil [0, 1]))) (B_l_near_L1 X))
  (.cons (.ret (.var 1))
  .nil))
def F_l_near (X : Ix) : MFn := ⟨2, 9, B_l_near X⟩
/-! _law_once (k06 k07) -/
def B_l_once (X : Ix) : MSs := (.cons (.ret (.mt .join (.cst (.str [])) (.cons (.comp (.tup [1, 2]) [1, 2] (.enum (.var 0)) (.some (.cmp .nin (.var 2) (.sl (.var 0) .none (.some (.var 1))))) (.var 2)) .nil)))
  .nil)
def F_l_once (X : Ix) : MFn := ⟨1, 3, B_l_once X⟩
/-! how_many_forms (k09 k20 k21 k22 k23 k24 k25 k43 k44 k45 k46 k47 k48 k61 k63 k64 k66 k68 k69) -/
def B_how_many_forms_L1 (X : Ix) : MSs := (.cons (.asg (.name 1) (.bin .mul (.bin .mul (.bin .mul (.var 2) (.var 1)) (.var 2)) (.var 1)))
  .nil)
def B_how_many_forms (X : Ix) : MSs := (.cons (.asg (.name 1) (.cst (.int 1)))
  (.cons (.forr (.name 2) (.range2 (.cst (.int 1)) (.bin .add (.var 0) (.cst (.int 1)))) (B_how_many_forms_L1 X))
  (.cons (.ret (.var 1))
  .nil)))
def F_how_many_forms (X : Ix) : MFn := ⟨1, 3, B_how_many_forms X⟩
/-! _law_count (k09 k18 k19 k20 k21 k22 k24 k25 k33 k44 k48 k52) -/
def B_l_count_L1 (X : Ix) : MSs := (.cons (.asg (.name 1) (.bin .mul (.bin .mul (.bin .mul (.var 2) (.var 1)) (.var 2)) (.var 1)))
  .nil)
def B_l_count (X : Ix) : MSs := (.cons (.asg (.name 1) (.cst (.int 1)))
  (.cons (.forr (.name 2) (.range2 (.cst (.int 1)) (.bin .add (.var 0) (.cst (.int 1)))) (B_l_count_L1 X))
  (.cons (.ret (.var 1))
  .nil)))
def F_l_count (X : Ix) : MFn := ⟨1, 3, B_l_count X⟩
/-! tupled (k11 k18 k21 k23 k24 k25 k33 k46 k47 k62 k63 k64 k65 k66 k68 k69 k70) -/
def B_tupled (X : Ix) : MSs := (.cons (.ret (.ite (.bi1 (.isi2 .list .tuple) (.var 0)) (.bi .tuple (.cons (.comp (.name 1) [1] (.seq (.var 0)) .none (.call X.tupled (.cons (.var 1) .nil) .nil [0])) .nil)) (.var 0)))
  .nil)
def F_tupled (X : Ix) : MFn := ⟨1, 2, B_tupled X⟩
/-! letters_by (k11 k18 k21 k23 k24 k25 k33 k46 k47 k54 k55 k62 k63 k64 k65 k68 k69 k70 k71 k72) -/
def B_letters_by (X : Ix) : MSs := (.cons (.ite (.bop false (.cons (.not (.bi1 (.isi .tuple) (.var 0))) (.cons (.cmp .nin (.bi .len (.cons (.var 0) .nil)) (.tup (.cons (.cst (.int 0)) (.cons (.glb X.gFOUR) .nil)))) .nil))) (.cons (.ret (.cst .non))
  .nil) .nil)
  (.cons (.ite (.cmp .eq (.var 0) (.tup .nil)) (.cons (.ret (.cst (.str [])))
  .nil) .nil)
  (.cons (.ite (.not (.bi .all (.cons (.comp (.name 4) [4] (.seq (.tup (.cons (.idx (.var 0) (.cst (.int 1))) (.cons (.idx (.var 0) (.cst (.int 2))) .nil)))) .none (.bop true (.cons (.bi1 (.isi .str) (.var 4)) (.cons (.cmp .eq (.bi .len (.cons (.var 4) .nil)) (.cst (.int 1))) (.cons (.cmp .inn (.var 4) (.glb X.gALPHABET)) .nil))))) .nil))) (.cons (.ret (.cst .non))
  .nil) .nil)
  (.cons (.par [2, 3] (.cons (.call X.letters_by (.cons (.idx (.var 0) (.cst (.int 0))) .nil) .nil [0]) (.cons (.call X.letters_by (.cons (.idx (.var 0) (.cst (.int 3))) .nil) .nil [0]) .nil)))
  (.cons (.ite (.bop false (.cons (.isn true (.var 2)) (.cons (.isn true (.var 3)) (.cons (.cmp .inn (.idx (.var 0) (.cst (.int 1))) (.var 2)) (.cons (.cmp .inn (.idx (.var 0) (.cst (.int 2))) (.var 3)) .nil))))) (.cons (.ret (.cst .non))
  .nil) .nil)
  (.cons (.asg (.name 1) (.call X.letters_of (.cons (.bin .add (.var 2) (.idx (.var 0) (.cst (.int 1)))) .nil) .nil [0]))
  (.cons (.ret (.ite (.cmp .eq (.var 1) (.call X.letters_of (.cons (.bin .add (.var 3) (.idx (.var 0) (.cst (.int 2)))) .nil) .nil [0])) (.var 1) (.cst .non)))
  .nil)))))))
def F_letters_by (X : Ix) : MFn := ⟨1, 5, B_letters_by X⟩
/-! is_form (k11 k33 k54 k55 k62 k64 k71 k72) -/
def B_is_form (X : Ix) : MSs := (.cons (.ret (.isn false (.call X.letters_by (.cons (.var 0) .nil) .nil [0])))
  .nil)
def F_is_form (X : Ix) : MFn := ⟨1, 1, B_is_form X⟩
/-! letters_in (k11 k18 k21 k23 k24 k25 k46 k47 k62 k63 k64 k65 k68 k69 k70) -/
def B_letters_in (X : Ix) : MSs := (.cons (.ret (.call X.letters_by (.cons (.call X.tupled (.cons (.var 0) .nil) .nil [0]) .nil) .nil [0]))
  .nil)
def F_letters_in (X : Ix) : MFn := ⟨1, 1, B_letters_in X⟩
/-! _law_lists (k11 k12 k14 k15 k21 k24 k27 k28 k29 k32 k33 k38 k39 k40 k41 k42 k43 k45 k46 k47 k54) -/
def B_l_lists (X : Ix) : MSs := (.cons (.ret (.ite (.bi1 (.isi2 .list .tuple) (.var 0)) (.comp (.name 1) [1] (.seq (.var 0)) .none (.call X.l_lists (.cons (.var 1) .nil) .nil [0])) (.var 0)))
  .nil)
def F_l_lists (X : Ix) : MFn := ⟨1, 2, B_l_lists X⟩
/-! _law_less (k11 k12 k21 k22 k23 k24) -/
def B_l_less (X : Ix) : MSs := (.cons (.ret (.mt .join (.cst (.str [])) (.cons (.comp (.name 2) [2] (.seq (.var 0)) (.some (.cmp .ne (.var 2) (.var 1))) (.var 2)) .nil)))
  .nil)
def F_l_less (X : Ix) : MFn := ⟨2, 3, B_l_less X⟩
/-! _law_drawn_form (k11 k12 k21 k22 k24) -/
def B_l_drawn_form (X : Ix) : MSs := (.cons (.ite (.cmp .eq (.var 1) (.cst (.str []))) (.cons (.ret (.tup .nil))
  .nil) .nil)
  (.cons (.par [3, 4] (.cons (.call X.l_of (.cons (.var 0) (.cons (.var 1) .nil)) .nil [0, 1]) (.cons (.call X.l_of (.cons (.var 0) (.cons (.var 1) .nil)) .nil [0, 1]) .nil)))
  (.cons (.asg (.name 2) (.call X.l_drawn_form (.cons (.var 0) (.cons (.call X.l_less (.cons (.var 1) (.cons (.var 3) .nil)) .nil [0, 1]) .nil)) .nil [0, 1]))
  (.cons (.ret (.tup (.cons (.var 2) (.cons (.var 3) (.cons (.var 4) (.cons (.call X.l_drawn_form (.cons (.var 0) (.cons (.call X.l_less (.cons (.var 1) (.cons (.var 4) .nil)) .nil [0, 1]) .nil)) .nil [0, 1]) .nil))))))
  .nil))))
def F_l_drawn_form (X : Ix) : MFn := ⟨2, 5, B_l_drawn_form X⟩
/-! _law_some_letters (k11 k12 k14 k18 k19) -/
def B_l_some_letters (X : Ix) : MSs := (.cons (.ret (.mt .join (.cst (.str [])) (.cons (.comp (.name 2) [2] (.seq (.var 0)) (.some (.cmp .ne (.var 2) (.var 1))) (.var 2)) .nil)))
  .nil)
def F_l_some_letters (X : Ix) : MFn := ⟨2, 3, B_l_some_letters X⟩
/-! _law_every (k11 k12 k14 k18 k19) -/
def B_l_every_L2 (X : Ix) : MSs := (.cons (.asg (.name 5) (.call X.l_every (.cons (.call X.l_some_letters (.cons (.var 0) (.cons (.var 1) .nil)) .nil [0, 1]) .nil) .nil [0]))
  (.cons (.asg (.name 3) (.bin .add (.var 3) (.comp (.name 6) [6] (.seq (.var 5)) .none (.tup (.cons (.var 6) (.cons (.var 1) .nil))))))
  (.cons (.asg (.name 4) (.bin .add (.var 4) (.comp (.name 6) [6] (.seq (.var 5)) .none (.tup (.cons (.var 1) (.cons (.var 6) .nil))))))
  .nil)))
def B_l_every_L1 (X : Ix) : MSs := (.cons (.asg (.name 2) (.bin .add (.var 2) (.comp (.name 6) [6] (.seq (.var 4)) .none (.bin .add (.var 1) (.var 6)))))
  .nil)
def B_l_every (X : Ix) : MSs := (.cons (.ite (.cmp .eq (.var 0) (.cst (.str []))) (.cons (.ret (.lst (.cons (.tup .nil) .nil)))
  .nil) .nil)
  (.cons (.par [3, 4] (.cons (.lst .nil) (.cons (.lst .nil) .nil)))
  (.cons (.forr (.name 1) (.seq (.var 0)) (B_l_every_L2 X))
  (.cons (.asg (.name 2) (.lst .nil))
  (.cons (.forr (.name 1) (.seq (.var 3)) (B_l_every_L1 X))
  (.cons (.ret (.var 2))
  .nil))))))
def F_l_every (X : Ix) : MFn := ⟨1, 7, B_l_every X⟩
/-! plan_by (k12 k14 k15 k17 k29 k31 k60 k62 k63 k64 k65 k66 k68 k69 k70 k71) -/
def B_plan_by (X : Ix) : MSs := (.cons (.ite (.cmp .eq (.bi .len (.cons (.var 0) .nil)) (.cst (.int 0))) (.cons (.ret (.cst (.str [])))
  .nil) .nil)
  (.cons (.par [1, 2] (.cons (.call X.plan_by (.cons (.idx (.var 0) (.cst (.int 0))) .nil) .nil [0]) (.cons (.call X.plan_by (.cons (.idx (.var 0) (.cst (.int 3))) .nil) .nil [0]) .nil)))
  (.cons (.ret (.ite (.cmp .ne (.var 1) (.cst (.str []))) (.bin .add (.bin .add (.bin .add (.var 1) (.idx (.var 0) (.cst (.int 1)))) (.idx (.var 0) (.cst (.int 2)))) (.var 2)) (.idx (.var 0) (.cst (.int 1)))))
  .nil)))
def F_plan_by (X : Ix) : MFn := ⟨1, 3, B_plan_by X⟩
/-! plan_of (k12 k14 k15 k17 k29 k31 k60 k62 k63 k64 k65 k66 k68 k69 k70 k71) -/
def B_plan_of (X : Ix) : MSs := (.cons (.ret (.call X.plan_by (.cons (.var 0) .nil) .nil [0]))
  .nil)
def F_plan_of (X : Ix) : MFn := ⟨1, 1, B_plan_of X⟩
/-! _law_plan_of (k12 k14 k18 k19 k21 k22 k24 k25 k33 k44 k48 k49 k53) -/
def B_l_plan_of (X : Ix) : MSs := (.cons (.ite (.cmp .eq (.var 0) (.tup .nil)) (.cons (.ret (.cst (.str [])))
  .nil) .nil)
  (.cons (.ite (.bop true (.cons (.cmp .eq (.idx (.var 0) (.cst (.int 0))) (.tup .nil)) (.cons (.cmp .eq (.idx (.var 0) (.cst (.int 3))) (.tup .nil)) .nil))) (.cons (.ret (.idx (.var 0) (.cst (.int 1))))
  .nil) .nil)
  (.cons (.ret (.bin .add (.bin .add (.bin .add (.call X.l_plan_of (.cons (.idx (.var 0) (.cst (.int 0))) .nil) .nil [0]) (.idx (.var 0) (.cst (.int 1)))) (.idx (.var 0) (.cst (.int 2)))) (.call X.l_plan_of (.cons (.idx (.var 0) (.cst (.int 3))) .nil) .nil [0])))
  .nil)))
def F_l_plan_of (X : Ix) : MFn := ⟨1, 1, B_l_plan_of X⟩
/-! alike (k13 k31 k34 k35 k37 k60 k61 k62 k63 k64 k66 k67 k68 k69 k70 k72) -/
def B_alike (X : Ix) : MSs := (.cons (.ret (.cmp .eq (.call X.form_of (.cons (.var 0) .nil) .nil [0]) (.call X.form_of (.cons (.var 1) .nil) .nil [0])))
  .nil)
def F_alike (X : Ix) : MFn := ⟨2, 2, B_alike X⟩
/-! _law_alike (k13 k16 k17 k18 k19) -/
def B_l_alike (X : Ix) : MSs := (.cons (.ret (.cmp .eq (.call X.l_form (.cons (.var 0) .nil) .nil [0]) (.call X.l_form (.cons (.var 1) .nil) .nil [0])))
  .nil)
def F_l_alike (X : Ix) : MFn := ⟨2, 2, B_l_alike X⟩
/-! product (k14 k29 k60 k62 k63 k64 k65 k68 k70) -/
def B_product (X : Ix) : MSs := (.cons (.ret (.call X.form_of (.cons (.bin .add (.call X.plan_of (.cons (.var 0) .nil) .nil [0]) (.call X.plan_of (.cons (.var 1) .nil) .nil [0])) .nil) .nil [0]))
  .nil)
def F_product (X : Ix) : MFn := ⟨2, 2, B_product X⟩
/-! product_of (k14 k62 k65) -/
def B_product_of_L1 (X : Ix) : MSs := (.cons (.asg (.name 1) (.call X.product (.cons (.var 1) (.cons (.var 2) .nil)) .nil [0, 1]))
  .nil)
def B_product_of (X : Ix) : MSs := (.cons (.asg (.name 1) (.tup .nil))
  (.cons (.forr (.name 2) (.seq (.var 0)) (B_product_of_L1 X))
  (.cons (.ret (.var 1))
  .nil)))
def F_product_of (X : Ix) : MFn := ⟨1, 3, B_product_of X⟩
/-! form_back (k15 k62 k64 k69) -/
def B_form_back (X : Ix) : MSs := (.cons (.ret (.call X.form_of (.cons (.rev (.call X.plan_of (.cons (.var 0) .nil) .nil [0])) .nil) .nil [0]))
  .nil)
def F_form_back (X : Ix) : MFn := ⟨1, 1, B_form_back X⟩
/-! form_renamed (k15 k62 k69) -/
def B_form_renamed (X : Ix) : MSs := (.cons (.ret (.call X.form_of (.cons (.call X.renamed (.cons (.call X.plan_of (.cons (.var 0) .nil) .nil [0]) (.cons (.var 1) (.cons (.var 2) .nil))) .nil [0, 1, 2]) .nil) .nil [0]))
  .nil)
def F_form_renamed (X : Ix) : MFn := ⟨3, 3, B_form_renamed X⟩
/-! form_without (k15 k62) -/
def B_form_without (X : Ix) : MSs := (.cons (.ret (.call X.form_of (.cons (.mt .join (.cst (.str [])) (.cons (.comp (.name 2) [2] (.seq (.call X.plan_of (.cons (.var 0) .nil) .nil [0])) (.some (.cmp .nin (.var 2) (.var 1))) (.var 2)) .nil)) .nil) .nil [0]))
  .nil)
def F_form_without (X : Ix) : MFn := ⟨2, 3, B_form_without X⟩
/-! stages (k15 k18 k19 k62 k63) -/
def B_stages (X : Ix) : MSs := (.cons (.asg (.name 1) (.comp (.tup [2, 3]) [2, 3] (.enum (.var 0)) (.some (.cmp .nin (.var 3) (.sl (.var 0) .none (.some (.var 2))))) (.var 2)))
  (.cons (.ret (.bi .tuple (.cons (.bin .add (.comp (.name 2) [2] (.seq (.var 1)) .none (.call X.form_of (.cons (.sl (.var 0) .none (.some (.var 2))) .nil) .nil [0])) (.lst (.cons (.call X.form_of (.cons (.var 0) .nil) .nil [0]) .nil))) .nil)))
  .nil))
def F_stages (X : Ix) : MFn := ⟨1, 4, B_stages X⟩
/-! begins (k16 k63) -/
def B_begins (X : Ix) : MSs := (.cons (.ret (.cmp .eq (.call X.form_of (.cons (.bin .add (.var 1) (.var 0)) .nil) .nil [0]) (.call X.form_of (.cons (.var 0) .nil) .nil [0])))
  .nil)
def F_begins (X : Ix) : MFn := ⟨2, 2, B_begins X⟩
/-! stops (k16 k63) -/
def B_stops (X : Ix) : MSs := (.cons (.ret (.cmp .eq (.call X.form_of (.cons (.bin .add (.var 0) (.var 1)) .nil) .nil [0]) (.call X.form_of (.cons (.var 0) .nil) .nil [0])))
  .nil)
def F_stops (X : Ix) : MFn := ⟨2, 2, B_stops X⟩
/-! holds (k16 k17 k19 k63) -/
def B_holds (X : Ix) : MSs := (.cons (.ret (.cmp .eq (.call X.form_of (.cons (.bin .add (.bin .add (.var 1) (.var 0)) (.var 2)) .nil) .nil [0]) (.call X.form_of (.cons (.var 0) .nil) .nil [0])))
  .nil)
def F_holds (X : Ix) : MFn := ⟨3, 3, B_holds X⟩
/-! middle (k17 k63) -/
def B_middle (X : Ix) : MSs := (.cons (.ret (.ite (.call X.holds (.cons (.var 0) (.cons (.var 1) (.cons (.var 2) .nil))) .nil [0, 1, 2]) (.call X.plan_of (.cons (.call X.form_of (.cons (.var 0) .nil) .nil [0]) .nil) .nil [0]) (.cst .non)))
  .nil)
def F_middle (X : Ix) : MFn := ⟨3, 3, B_middle X⟩
/-! is_middle (k17) -/
def B_is_middle (X : Ix) : MSs := (.cons (.ret (.bop true (.cons (.call X.is_plan (.cons (.var 3) .nil) .nil [0]) (.cons (.cmp .eq (.call X.form_of (.cons (.bin .add (.bin .add (.var 1) (.var 3)) (.var 2)) .nil) .nil [0]) (.call X.form_of (.cons (.var 0) .nil) .nil [0])) .nil))))
  .nil)
def F_is_middle (X : Ix) : MFn := ⟨4, 4, B_is_middle X⟩
/-! swallows (k17 k63) -/
def B_swallows (X : Ix) : MSs := (.cons (.ret (.cmp .eq (.call X.form_of (.cons (.bin .add (.bin .add (.var 0) (.var 1)) (.var 0)) .nil) .nil [0]) (.call X.form_of (.cons (.var 0) .nil) .nil [0])))
  .nil)
def F_swallows (X : Ix) : MFn := ⟨2, 2, B_swallows X⟩
/-! same_stop (k18 k63) -/
def B_same_stop (X : Ix) : MSs := (.cons (.ret (.call X.same_start (.cons (.rev (.var 0)) (.cons (.rev (.var 1)) .nil)) .nil [0, 1]))
  .nil)
def F_same_stop (X : Ix) : MFn := ⟨2, 2, B_same_stop X⟩
/-! halves (k18 k19 k63) -/
def B_halves (X : Ix) : MSs := (.cons (.ret (.ite (.cmp .gt (.var 0) (.cst (.int 0))) (.bin .mul (.bin .mul (.var 0) (.call X.halves (.cons (.bin .sub (.var 0) (.cst (.int 1))) .nil) .nil [0])) (.call X.halves (.cons (.bin .sub (.var 0) (.cst (.int 1))) .nil) .nil [0])) (.cst (.int 1))))
  .nil)
def F_halves (X : Ix) : MFn := ⟨1, 1, B_halves X⟩
/-! how_many_starts (k18 k63) -/
def B_how_many_starts (X : Ix) : MSs := (.cons (.ret (.bi .sum (.cons (.comp (.name 1) [1] (.seq (.call X.stages (.cons (.var 0) .nil) .nil [0])) .none (.call X.halves (.cons (.bi .len (.cons (.call X.letters_in (.cons (.var 1) .nil) .nil [0]) .nil)) .nil) .nil [0])) .nil)))
  .nil)
def F_how_many_starts (X : Ix) : MFn := ⟨1, 2, B_how_many_starts X⟩
/-! how_many_stops (k18 k63) -/
def B_how_many_stops (X : Ix) : MSs := (.cons (.ret (.call X.how_many_starts (.cons (.rev (.var 0)) .nil) .nil [0]))
  .nil)
def F_how_many_stops (X : Ix) : MFn := ⟨1, 1, B_how_many_stops X⟩
/-! lefts (k19 k63) -/
def B_lefts_L1 (X : Ix) : MSs := (.cons (.aug 2 .mul (.bin .mul (.bin .sub (.var 3) (.bi .len (.cons (.call X.letters_of (.cons (.var 0) .nil) .nil [0]) .nil))) (.call X.halves (.cons (.bin .sub (.var 3) (.cst (.int 1))) .nil) .nil [0])))
  .nil)
def B_lefts (X : Ix) : MSs := (.cons (.ite (.not (.bi .all (.cons (.comp (.name 4) [4] (.seq (.var 0)) .none (.cmp .inn (.var 4) (.var 1))) .nil))) (.cons (.ret (.cst (.int 0)))
  .nil) .nil)
  (.cons (.asg (.name 2) (.cst (.int 1)))
  (.cons (.forr (.name 3) (.range2 (.bin .add (.bi .len (.cons (.call X.letters_of (.cons (.var 0) .nil) .nil [0]) .nil)) (.cst (.int 1))) (.bin .add (.bi .len (.cons (.var 1) .nil)) (.cst (.int 1)))) (B_lefts_L1 X))
  (.cons (.ret (.var 2))
  .nil))))
def F_lefts (X : Ix) : MFn := ⟨2, 5, B_lefts X⟩
/-! how_many_between (k19 k63) -/
def B_how_many_between (X : Ix) : MSs := (.cons (.asg (.name 3) (.call X.letters_of (.cons (.var 2) .nil) .nil [0]))
  (.cons (.ret (.bin .mul (.call X.lefts (.cons (.var 0) (.cons (.var 3) .nil)) .nil [0, 1]) (.call X.lefts (.cons (.rev (.var 1)) (.cons (.var 3) .nil)) .nil [0, 1])))
  .nil))
def F_how_many_between (X : Ix) : MFn := ⟨3, 4, B_how_many_between X⟩
/-! less (k20 k22 k23 k25 k43 k44 k45 k46 k47 k48 k64 k68 k69) -/
def B_less (X : Ix) : MSs := (.cons (.ret (.bin .add (.sl (.var 0) .none (.some (.var 1))) (.sl (.var 0) (.some (.bin .add (.var 1) (.cst (.int 1)))) .none)))
  .nil)
def F_less (X : Ix) : MFn := ⟨2, 2, B_less X⟩
/-! left_at (k19) -/
def B_left_at_L1 (X : Ix) : MSs := (.cons (.ite (.cmp .nin (.var 3) (.var 0)) (.cons (.asg (.name 4) (.call X.form_count (.cons (.var 0) (.cons (.cst (.str [])) (.cons (.call X.less (.cons (.var 1) (.cons (.var 3) .nil)) .nil [0, 1]) .nil))) .nil [0, 1, 2]))
  (.cons (.ite (.cmp .lt (.var 2) (.var 4)) (.cons (.ret (.tup (.cons (.call X.form_at (.cons (.var 0) (.cons (.cst (.str [])) (.cons (.call X.less (.cons (.var 1) (.cons (.var 3) .nil)) .nil [0, 1]) (.cons (.var 2) .nil)))) .nil [0, 1, 2, 3]) (.cons (.var 3) .nil))))
  .nil) .nil)
  (.cons (.aug 2 .sub (.var 4))
  .nil))) .nil)
  .nil)
def B_left_at (X : Ix) : MSs := (.cons (.ite (.cmp .eq (.call X.letters_of (.cons (.var 0) .nil) .nil [0]) (.var 1)) (.cons (.ret (.tup (.cons (.idx (.call X.stages (.cons (.var 0) .nil) .nil [0]) (.neg (.cst (.int 2)))) (.cons (.idx (.call X.news (.cons (.var 0) .nil) .nil [0]) (.neg (.cst (.int 1)))) .nil))))
  .nil) .nil)
  (.cons (.forr (.name 3) (.seq (.var 1)) (B_left_at_L1 X))
  (.cons (.ret (.tup (.cons (.tup .nil) (.cons (.cst (.str [])) .nil))))
  .nil)))
def F_left_at (X : Ix) : MFn := ⟨3, 5, B_left_at X⟩
/-! right_at (k19) -/
def B_right_at_L1 (X : Ix) : MSs := (.cons (.ite (.cmp .nin (.var 3) (.var 0)) (.cons (.asg (.name 4) (.call X.form_count (.cons (.cst (.str [])) (.cons (.var 0) (.cons (.call X.less (.cons (.var 1) (.cons (.var 3) .nil)) .nil [0, 1]) .nil))) .nil [0, 1, 2]))
  (.cons (.ite (.cmp .lt (.var 2) (.var 4)) (.cons (.ret (.tup (.cons (.var 3) (.cons (.call X.form_at (.cons (.cst (.str [])) (.cons (.var 0) (.cons (.call X.less (.cons (.var 1) (.cons (.var 3) .nil)) .nil [0, 1]) (.cons (.var 2) .nil)))) .nil [0, 1, 2, 3]) .nil))))
  .nil) .nil)
  (.cons (.aug 2 .sub (.var 4))
  .nil))) .nil)
  .nil)
def B_right_at (X : Ix) : MSs := (.cons (.ite (.cmp .eq (.call X.letters_of (.cons (.var 0) .nil) .nil [0]) (.var 1)) (.cons (.ret (.sl (.call X.form_of (.cons (.var 0) .nil) .nil [0]) (.some (.cst (.int 2))) .none))
  .nil) .nil)
  (.cons (.forr (.name 3) (.seq (.var 1)) (B_right_at_L1 X))
  (.cons (.ret (.tup (.cons (.cst (.str [])) (.cons (.tup .nil) .nil))))
  .nil)))
def F_right_at (X : Ix) : MFn := ⟨3, 5, B_right_at X⟩
/-! form_count (k19 k63) -/
def B_form_count (X : Ix) : MSs := (.cons (.ret (.bin .mul (.call X.lefts (.cons (.var 0) (.cons (.var 2) .nil)) .nil [0, 1]) (.call X.lefts (.cons (.var 1) (.cons (.var 2) .nil)) .nil [0, 1])))
  .nil)
def F_form_count (X : Ix) : MFn := ⟨3, 3, B_form_count X⟩
/-! nth_between (k19 k63) -/
def B_nth_between (X : Ix) : MSs := (.cons (.asg (.name 4) (.call X.how_many_between (.cons (.var 0) (.cons (.var 1) (.cons (.var 2) .nil))) .nil [0, 1, 2]))
  (.cons (.ret (.ite (.chain .le .lt (.cst (.int 0)) (.var 3) (.var 4)) (.call X.form_at (.cons (.var 0) (.cons (.var 1) (.cons (.call X.letters_of (.cons (.var 2) .nil) .nil [0]) (.cons (.var 3) .nil)))) .nil [0, 1, 2, 3]) (.cst .non)))
  .nil))
def F_nth_between (X : Ix) : MFn := ⟨4, 5, B_nth_between X⟩
/-! rank_left (k19) -/
def B_rank_left (X : Ix) : MSs := (.cons (.ite (.cmp .eq (.call X.letters_of (.cons (.var 0) .nil) .nil [0]) (.var 1)) (.cons (.ret (.cst (.int 0)))
  .nil) .nil)
  (.cons (.asg (.name 3) (.comp (.name 5) [5] (.seq (.var 1)) (.some (.bop true (.cons (.cmp .lt (.var 5) (.idx (.var 2) (.cst (.int 1)))) (.cons (.cmp .nin (.var 5) (.var 0)) .nil)))) (.var 5)))
  (.cons (.asg (.name 4) (.bi .sum (.cons (.comp (.name 5) [5] (.seq (.var 3)) .none (.call X.form_count (.cons (.var 0) (.cons (.cst (.str [])) (.cons (.call X.less (.cons (.var 1) (.cons (.var 5) .nil)) .nil [0, 1]) .nil))) .nil [0, 1, 2])) .nil)))
  (.cons (.ret (.bin .add (.var 4) (.call X.rank_form (.cons (.var 0) (.cons (.cst (.str [])) (.cons (.call X.less (.cons (.var 1) (.cons (.idx (.var 2) (.cst (.int 1))) .nil)) .nil [0, 1]) (.cons (.idx (.var 2) (.cst (.int 0))) .nil)))) .nil [0, 1, 2, 3])))
  .nil))))
def F_rank_left (X : Ix) : MFn := ⟨3, 6, B_rank_left X⟩
/-! rank_right (k19) -/
def B_rank_right (X : Ix) : MSs := (.cons (.ite (.cmp .eq (.call X.letters_of (.cons (.var 0) .nil) .nil [0]) (.var 1)) (.cons (.ret (.cst (.int 0)))
  .nil) .nil)
  (.cons (.asg (.name 3) (.comp (.name 5) [5] (.seq (.var 1)) (.some (.bop true (.cons (.cmp .lt (.var 5) (.idx (.var 2) (.cst (.int 0)))) (.cons (.cmp .nin (.var 5) (.var 0)) .nil)))) (.var 5)))
  (.cons (.asg (.name 4) (.bi .sum (.cons (.comp (.name 5) [5] (.seq (.var 3)) .none (.call X.form_count (.cons (.cst (.str [])) (.cons (.var 0) (.cons (.call X.less (.cons (.var 1) (.cons (.var 5) .nil)) .nil [0, 1]) .nil))) .nil [0, 1, 2])) .nil)))
  (.cons (.ret (.bin .add (.var 4) (.call X.rank_form (.cons (.cst (.str [])) (.cons (.var 0) (.cons (.call X.less (.cons (.var 1) (.cons (.idx (.var 2) (.cst (.int 0))) .nil)) .nil [0, 1]) (.cons (.idx (.var 2) (.cst (.int 1))) .nil)))) .nil [0, 1, 2, 3])))
  .nil))))
def F_rank_right (X : Ix) : MFn := ⟨3, 6, B_rank_right X⟩
/-! rank_form (k19 k63) -/
def B_rank_form (X : Ix) : MSs := (.cons (.ite (.cmp .eq (.var 2) (.cst (.str []))) (.cons (.ret (.cst (.int 0)))
  .nil) .nil)
  (.cons (.par [4, 5] (.cons (.call X.rank_left (.cons (.var 0) (.cons (.var 2) (.cons (.sl (.var 3) .none (.some (.cst (.int 2)))) .nil))) .nil [0, 1, 2]) (.cons (.call X.rank_right (.cons (.var 1) (.cons (.var 2) (.cons (.sl (.var 3) (.some (.cst (.int 2))) .none) .nil))) .nil [0, 1, 2]) .nil)))
  (.cons (.ret (.bin .add (.bin .mul (.var 4) (.call X.lefts (.cons (.var 1) (.cons (.var 2) .nil)) .nil [0, 1])) (.var 5)))
  .nil)))
def F_rank_form (X : Ix) : MFn := ⟨4, 6, B_rank_form X⟩
/-! number_between (k19 k63) -/
def B_number_between (X : Ix) : MSs := (.cons (.ret (.ite (.call X.holds (.cons (.var 2) (.cons (.var 0) (.cons (.var 1) .nil))) .nil [0, 1, 2]) (.call X.rank_form (.cons (.var 0) (.cons (.var 1) (.cons (.call X.letters_of (.cons (.var 2) .nil) .nil [0]) (.cons (.call X.form_of (.cons (.var 2) .nil) .nil [0]) .nil)))) .nil [0, 1, 2, 3]) (.cst .non)))
  .nil)
def F_number_between (X : Ix) : MFn := ⟨3, 3, B_number_between X⟩
/-! how_many_among (k20 k24 k25 k43 k44 k45 k46 k47 k48 k64 k68 k69) -/
def B_how_many_among_L1 (X : Ix) : MSs := (.cons (.aug 2 .add (.bin .mul (.var 3) (.call X.how_many_forms (.cons (.var 1) .nil) .nil [0])))
  (.cons (.asg (.name 3) (.bin .fdiv (.bin .mul (.var 3) (.bin .sub (.var 0) (.var 1))) (.bin .add (.var 1) (.cst (.int 1)))))
  .nil))
def B_how_many_among (X : Ix) : MSs := (.cons (.par [2, 3] (.cons (.cst (.int 0)) (.cons (.cst (.int 1)) .nil)))
  (.cons (.forr (.name 1) (.range1 (.bin .add (.var 0) (.cst (.int 1)))) (B_how_many_among_L1 X))
  (.cons (.ret (.var 2))
  .nil)))
def F_how_many_among (X : Ix) : MFn := ⟨1, 4, B_how_many_among X⟩
/-! nth_form (k20 k22 k23 k25 k43 k44 k45 k46 k47 k48 k64 k68 k69) -/
def B_nth_form (X : Ix) : MSs := (.cons (.ite (.not (.chain .le .lt (.cst (.int 0)) (.var 1) (.call X.how_many_forms (.cons (.bi .len (.cons (.var 0) .nil)) .nil) .nil [0]))) (.cons (.ret (.cst .non))
  .nil) .nil)
  (.cons (.ite (.cmp .eq (.var 0) (.cst (.str []))) (.cons (.ret (.tup .nil))
  .nil) .nil)
  (.cons (.asg (.name 2) (.call X.how_many_forms (.cons (.bin .sub (.bi .len (.cons (.var 0) .nil)) (.cst (.int 1))) .nil) .nil [0]))
  (.cons (.par [3, 4] (.cons (.bin .fdiv (.var 1) (.var 2)) (.cons (.bin .mod (.var 1) (.var 2)) .nil)))
  (.cons (.par [3, 5] (.cons (.bin .fdiv (.var 3) (.bi .len (.cons (.var 0) .nil))) (.cons (.bin .mod (.var 3) (.bi .len (.cons (.var 0) .nil))) .nil)))
  (.cons (.par [6, 7] (.cons (.bin .fdiv (.var 3) (.var 2)) (.cons (.bin .mod (.var 3) (.var 2)) .nil)))
  (.cons (.ret (.tup (.cons (.call X.nth_form (.cons (.call X.less (.cons (.var 0) (.cons (.var 6) .nil)) .nil [0, 1]) (.cons (.var 7) .nil)) .nil [0, 1]) (.cons (.idx (.var 0) (.var 6)) (.cons (.idx (.var 0) (.var 5)) (.cons (.call X.nth_form (.cons (.call X.less (.cons (.var 0) (.cons (.var 5) .nil)) .nil [0, 1]) (.cons (.var 4) .nil)) .nil [0, 1]) .nil))))))
  .nil)))))))
def F_nth_form (X : Ix) : MFn := ⟨2, 8, B_nth_form X⟩
/-! all_forms (k20 k23 k64 k69) -/
def B_all_forms (X : Ix) : MSs := (.cons (.ret (.comp (.name 1) [1] (.range1 (.call X.how_many_forms (.cons (.bi .len (.cons (.var 0) .nil)) .nil) .nil [0])) .none (.call X.nth_form (.cons (.var 0) (.cons (.var 1) .nil)) .nil [0, 1])))
  .nil)
def F_all_forms (X : Ix) : MFn := ⟨1, 2, B_all_forms X⟩
/-! _law_raised (k20 k22 k27 k28 k29 k64) -/
def B_l_raised_L1 (X : Ix) : MSs := (.cons (.asg (.name 2) (.bin .mul (.var 2) (.var 0)))
  .nil)
def B_l_raised (X : Ix) : MSs := (.cons (.asg (.name 2) (.cst (.int 1)))
  (.cons (.forr (.name 3) (.range1 (.var 1)) (B_l_raised_L1 X))
  (.cons (.ret (.var 2))
  .nil)))
def F_l_raised (X : Ix) : MFn := ⟨2, 4, B_l_raised X⟩
/-! number_of (k21 k23 k24 k25 k46 k47 k63 k64 k68 k69) -/
def B_number_of (X : Ix) : MSs := (.cons (.asg (.name 1) (.call X.tupled (.cons (.var 0) .nil) .nil [0]))
  (.cons (.ite (.cmp .eq (.var 1) (.tup .nil)) (.cons (.ret (.cst (.int 0)))
  .nil) .nil)
  (.cons (.asg (.tup [5, 6, 7, 8]) (.var 1))
  (.cons (.asg (.name 2) (.call X.letters_in (.cons (.var 1) .nil) .nil [0]))
  (.cons (.asg (.name 3) (.call X.how_many_forms (.cons (.bin .sub (.bi .len (.cons (.var 2) .nil)) (.cst (.int 1))) .nil) .nil [0]))
  (.cons (.asg (.name 4) (.bin .add (.bin .mul (.mt .find (.var 2) (.cons (.var 6) .nil)) (.var 3)) (.call X.number_of (.cons (.var 5) .nil) .nil [0])))
  (.cons (.ret (.bin .add (.bin .mul (.bin .add (.bin .mul (.var 4) (.bi .len (.cons (.var 2) .nil))) (.mt .find (.var 2) (.cons (.var 7) .nil))) (.var 3)) (.call X.number_of (.cons (.var 8) .nil) .nil [0])))
  .nil)))))))
def F_number_of (X : Ix) : MFn := ⟨1, 9, B_number_of X⟩
/-! _law_chosen (k21 k22 k23 k24 k25 k64) -/
def B_l_chosen (X : Ix) : MSs := (.cons (.ret (.mt .join (.cst (.str [])) (.cons (.bi .sorted (.cons (.sl (.call X.l_mixed (.cons (.var 0) (.cons (.bi .list (.cons (.cst (.str [97, 98, 99, 100, 101, 102, 103, 104])) .nil)) .nil)) .nil [0, 1]) .none (.some (.call X.l_take (.cons (.var 0) (.cons (.bin .add (.var 1) (.cst (.int 1))) .nil)) .nil [0, 1]))) .nil)) .nil)))
  .nil)
def F_l_chosen (X : Ix) : MFn := ⟨2, 2, B_l_chosen X⟩
/-! _law_names (k21 k22 k24 k25) -/
def B_l_names (X : Ix) : MSs := (.cons (.ret (.mt .join (.cst (.str [])) (.cons (.bi1 .sset (.call X.l_plan_of (.cons (.var 0) .nil) .nil [0])) .nil)))
  .nil)
def F_l_names (X : Ix) : MFn := ⟨1, 1, B_l_names X⟩
/-! _law_rank (k21 k22 k24 k25) -/
def B_l_rank (X : Ix) : MSs := (.cons (.ite (.cmp .eq (.var 0) (.tup .nil)) (.cons (.ret (.cst (.int 0)))
  .nil) .nil)
  (.cons (.asg (.name 1) (.call X.l_names (.cons (.var 0) .nil) .nil [0]))
  (.cons (.par [3, 2] (.cons (.call X.l_count (.cons (.bin .sub (.bi .len (.cons (.var 1) .nil)) (.cst (.int 1))) .nil) .nil [0]) (.cons (.mt .find (.var 1) (.cons (.idx (.var 0) (.cst (.int 1))) .nil)) .nil)))
  (.cons (.asg (.name 2) (.bin .add (.bin .mul (.var 2) (.var 3)) (.call X.l_rank (.cons (.idx (.var 0) (.cst (.int 0))) .nil) .nil [0])))
  (.cons (.asg (.name 2) (.bin .add (.bin .mul (.var 2) (.bi .len (.cons (.var 1) .nil))) (.mt .find (.var 1) (.cons (.idx (.var 0) (.cst (.int 2))) .nil))))
  (.cons (.ret (.bin .add (.bin .mul (.var 2) (.var 3)) (.call X.l_rank (.cons (.idx (.var 0) (.cst (.int 3))) .nil) .nil [0])))
  .nil))))))
def F_l_rank (X : Ix) : MFn := ⟨1, 4, B_l_rank X⟩
/-! set_order (k24 k25 k43 k44 k45 k46 k47 k48 k64 k68 k69) -/
def B_set_order (X : Ix) : MSs := (.cons (.ret (.tup (.cons (.bi .len (.cons (.var 0) .nil)) (.cons (.var 0) .nil))))
  .nil)
def F_set_order (X : Ix) : MFn := ⟨1, 1, B_set_order X⟩
/-! number_among (k24 k25 k46 k47 k64 k68 k69) -/
def B_number_among_L2 (X : Ix) : MSs := (.cons (.ite (.cmp .nin (.var 2) (.var 1)) (.cons .never
  .nil) .nil)
  .nil)
def B_number_among_L1 (X : Ix) : MSs := (.cons (.ite (.cmp .eq (.var 3) (.var 4)) (.cons (.ret (.bin .add (.var 5) (.call X.number_of (.cons (.var 0) .nil) .nil [0])))
  .nil) .nil)
  (.cons (.aug 5 .add (.call X.how_many_forms (.cons (.bi .len (.cons (.var 3) .nil)) .nil) .nil [0]))
  .nil))
def B_number_among (X : Ix) : MSs := (.cons (.par [4, 5] (.cons (.call X.letters_in (.cons (.call X.tupled (.cons (.var 0) .nil) .nil [0]) .nil) .nil [0]) (.cons (.cst (.int 0)) .nil)))
  (.cons (.forr (.name 2) (.seq (.var 4)) (B_number_among_L2 X))
  (.cons (.forr (.name 3) (.seq (.call X.sets_of (.cons (.var 1) .nil) .nil [0])) (B_number_among_L1 X))
  (.cons (.ret (.var 5))
  .nil))))
def F_number_among (X : Ix) : MFn := ⟨2, 6, B_number_among X⟩
/-! _law_sets (k24 k25) -/
def B_l_sets_L1 (X : Ix) : MSs := (.cons (.asg (.name 1) (.bin .add (.var 1) (.comp (.name 3) [3] (.seq (.var 1)) .none (.bin .add (.var 3) (.var 2)))))
  .nil)
def B_l_sets (X : Ix) : MSs := (.cons (.asg (.name 1) (.lst (.cons (.cst (.str [])) .nil)))
  (.cons (.forr (.name 2) (.seq (.var 0)) (B_l_sets_L1 X))
  (.cons (.ret (.comp (.name 2) [2] (.seq (.bi .sorted (.cons (.comp (.name 3) [3] (.seq (.var 1)) .none (.tup (.cons (.bi .len (.cons (.var 3) .nil)) (.cons (.var 3) .nil)))) .nil))) .none (.idx (.var 2) (.cst (.int 1)))))
  .nil)))
def F_l_sets (X : Ix) : MFn := ⟨1, 4, B_l_sets X⟩
/-! nth_among (k25 k43 k44 k45 k46 k47 k48 k64 k68 k69) -/
def B_nth_among_L1 (X : Ix) : MSs := (.cons (.asg (.name 4) (.call X.how_many_forms (.cons (.bi .len (.cons (.var 3) .nil)) .nil) .nil [0]))
  (.cons (.ite (.cmp .lt (.var 2) (.var 4)) (.cons (.ret (.call X.nth_form (.cons (.var 3) (.cons (.var 2) .nil)) .nil [0, 1]))
  .nil) .nil)
  (.cons (.aug 2 .sub (.var 4))
  .nil)))
def B_nth_among (X : Ix) : MSs := (.cons (.asg (.name 2) (.var 1))
  (.cons (.ite (.cmp .lt (.var 1) (.cst (.int 0))) (.cons (.ret (.cst .non))
  .nil) .nil)
  (.cons (.forr (.name 3) (.seq (.call X.sets_of (.cons (.var 0) .nil) .nil [0])) (B_nth_among_L1 X))
  (.cons (.ret (.cst .non))
  .nil))))
def F_nth_among (X : Ix) : MFn := ⟨2, 5, B_nth_among X⟩
/-! is_number (k26 k38 k41 k42 k44 k65 k68) -/
def B_is_number (X : Ix) : MSs := (.cons (.ret (.bop true (.cons (.bi1 (.isi .int) (.var 0)) (.cons (.not (.bi1 (.isi .bool) (.var 0))) .nil))))
  .nil)
def F_is_number (X : Ix) : MFn := ⟨1, 1, B_is_number X⟩
/-! is_part (k26 k65) -/
def B_is_part (X : Ix) : MSs := (.cons (.ret (.bop false (.cons (.call X.is_plan (.cons (.var 0) .nil) .nil [0]) (.cons (.bop true (.cons (.call X.is_number (.cons (.var 0) .nil) .nil [0]) (.cons (.chain .le .lt (.cst (.int 0)) (.var 0) (.var 1)) .nil))) .nil))))
  .nil)
def F_is_part (X : Ix) : MFn := ⟨2, 2, B_is_part X⟩
/-! is_book (k26 k65) -/
def B_is_book (X : Ix) : MSs := (.cons (.ite (.bop false (.cons (.not (.bi1 (.isi .tuple) (.var 0))) (.cons (.not (.bi .all (.cons (.comp (.name 2) [2] (.seq (.var 0)) .none (.bi1 (.isi .tuple) (.var 2))) .nil))) .nil))) (.cons (.ret (.cst (.bl false)))
  .nil) .nil)
  (.cons (.ret (.bi .all (.cons (.comp (.tup [1, 2]) [1, 2] (.enum (.var 0)) .none (.bi .all (.cons (.comp (.name 3) [3] (.seq (.var 2)) .none (.call X.is_part (.cons (.var 3) (.cons (.var 1) .nil)) .nil [0, 1])) .nil))) .nil)))
  .nil))
def F_is_book (X : Ix) : MFn := ⟨1, 4, B_is_book X⟩
/-! _law_some_book (k26 k27 k28 k29 k65) -/
def B_l_some_book_L2 (X : Ix) : MSs := (.cons (.ite (.bop true (.cons (.cmp .gt (.var 3) (.cst (.int 0))) (.cons (.cmp .gt (.call X.l_take (.cons (.var 0) (.cons (.cst (.int 3)) .nil)) .nil [0, 1]) (.cst (.int 0))) .nil))) (.cons (.expr (.mt .append (.var 6) (.cons (.bi .max (.cons (.cst (.int 0)) (.cons (.bin .sub (.bin .sub (.var 3) (.cst (.int 1))) (.call X.l_take (.cons (.var 0) (.cons (.cst (.int 3)) .nil)) .nil [0, 1])) .nil))) .nil)))
  .nil) (.cons (.expr (.mt .append (.var 6) (.cons (.mt .join (.cst (.str [])) (.cons (.comp (.name 8) [8] (.range1 (.call X.l_take (.cons (.var 0) (.cons (.cst (.int 5)) .nil)) .nil [0, 1])) .none (.call X.l_of (.cons (.var 0) (.cons (.var 4) .nil)) .nil [0, 1])) .nil)) .nil)))
  .nil))
  .nil)
def B_l_some_book_L1 (X : Ix) : MSs := (.cons (.asg (.name 6) (.new .nil))
  (.cons (.forr (.name 7) (.range1 (.call X.l_take (.cons (.var 0) (.cons (.cst (.int 5)) .nil)) .nil [0, 1])) (B_l_some_book_L2 X))
  (.cons (.expr (.mt .append (.var 5) (.cons (.bi .tuple (.cons (.var 6) .nil)) .nil)))
  .nil)))
def B_l_some_book (X : Ix) : MSs := (.cons (.par [4, 5] (.cons (.sl (.call X.l_mixed (.cons (.var 0) (.cons (.bi .list (.cons (.cst (.str [97, 98, 99, 100, 101, 102, 103, 104])) .nil)) .nil)) .nil [0, 1]) .none (.some (.var 2))) (.cons (.new .nil) .nil)))
  (.cons (.forr (.name 3) (.range1 (.var 1)) (B_l_some_book_L1 X))
  (.cons (.ret (.bi .tuple (.cons (.var 5) .nil)))
  .nil)))
def F_l_some_book (X : Ix) : MFn := ⟨3, 9, B_l_some_book X⟩
/-! check_piece (k27 k28 k29 k65) -/
def B_check_piece (X : Ix) : MSs := (.cons (.ite (.not (.chain .le .lt (.cst (.int 0)) (.var 1) (.bi .len (.cons (.var 0) .nil)))) (.cons .never
  .nil) .nil)
  .nil)
def F_check_piece (X : Ix) : MFn := ⟨2, 2, B_check_piece X⟩
/-! longs_of (k27 k28 k29 k65) -/
def B_longs_of_L1 (X : Ix) : MSs := (.cons (.expr (.mt .append (.var 1) (.cons (.bi .sum (.cons (.comp (.name 3) [3] (.seq (.var 2)) .none (.ite (.bi1 (.isi .str) (.var 3)) (.bi .len (.cons (.var 3) .nil)) (.idx (.var 1) (.var 3)))) .nil)) .nil)))
  .nil)
def B_longs_of (X : Ix) : MSs := (.cons (.asg (.name 1) (.new .nil))
  (.cons (.forr (.name 2) (.seq (.var 0)) (B_longs_of_L1 X))
  (.cons (.ret (.frz (.var 1)))
  .nil)))
def F_longs_of (X : Ix) : MFn := ⟨1, 4, B_longs_of X⟩
/-! long_of (k27 k65) -/
def B_long_of (X : Ix) : MSs := (.cons (.expr (.call X.check_piece (.cons (.var 0) (.cons (.var 1) .nil)) .nil [0, 1]))
  (.cons (.ret (.idx (.call X.longs_of (.cons (.var 0) .nil) .nil [0]) (.var 1)))
  .nil))
def F_long_of (X : Ix) : MFn := ⟨2, 2, B_long_of X⟩
/-! cut_to (k27 k29 k65) -/
def B_cut_to (X : Ix) : MSs := (.cons (.asg (.name 5) (.ite (.bi1 (.isi .str) (.var 0)) (.bi .len (.cons (.var 0) .nil)) (.idx (.var 1) (.var 0))))
  (.cons (.ret (.tup (.cons (.bi .max (.cons (.cst (.int 0)) (.cons (.bin .sub (.var 3) (.var 2)) .nil))) (.cons (.bi .min (.cons (.var 5) (.cons (.bin .sub (.var 4) (.var 2)) .nil))) (.cons (.var 5) .nil)))))
  .nil))
def F_cut_to (X : Ix) : MFn := ⟨5, 6, B_cut_to X⟩
/-! stretch_in (k27 k65) -/
def B_stretch_in_L1 (X : Ix) : MSs := (.cons (.asg (.tup [8, 9, 10]) (.call X.cut_to (.cons (.var 5) (.cons (.var 1) (.cons (.var 7) (.cons (.var 3) (.cons (.var 4) .nil))))) .nil [0, 1, 2, 3, 4]))
  (.cons (.ite (.cmp .lt (.var 8) (.var 9)) (.cons (.aug 6 .add (.ite (.bi1 (.isi .str) (.var 5)) (.sl (.var 5) (.some (.var 8)) (.some (.var 9))) (.call X.stretch_in (.cons (.var 0) (.cons (.var 1) (.cons (.var 5) (.cons (.var 8) (.cons (.var 9) .nil))))) .nil [0, 1, 2, 3, 4])))
  .nil) .nil)
  (.cons (.aug 7 .add (.var 10))
  .nil)))
def B_stretch_in (X : Ix) : MSs := (.cons (.par [6, 7] (.cons (.cst (.str [])) (.cons (.cst (.int 0)) .nil)))
  (.cons (.forr (.name 5) (.seq (.idx (.var 0) (.var 2))) (B_stretch_in_L1 X))
  (.cons (.ret (.var 6))
  .nil)))
def F_stretch_in (X : Ix) : MFn := ⟨5, 11, B_stretch_in X⟩
/-! stretch_of (k27 k65) -/
def B_stretch_of (X : Ix) : MSs := (.cons (.expr (.call X.check_piece (.cons (.var 0) (.cons (.var 1) .nil)) .nil [0, 1]))
  (.cons (.ret (.call X.stretch_in (.cons (.var 0) (.cons (.call X.longs_of (.cons (.var 0) .nil) .nil [0]) (.cons (.var 1) (.cons (.var 2) (.cons (.bin .add (.var 2) (.var 3)) .nil))))) .nil [0, 1, 2, 3, 4]))
  .nil))
def F_stretch_of (X : Ix) : MFn := ⟨4, 4, B_stretch_of X⟩
/-! letter_at (k27 k65) -/
def B_letter_at (X : Ix) : MSs := (.cons (.expr (.call X.check_piece (.cons (.var 0) (.cons (.var 1) .nil)) .nil [0, 1]))
  (.cons (.asg (.name 3) (.ite (.cmp .ge (.var 2) (.cst (.int 0))) (.call X.stretch_of (.cons (.var 0) (.cons (.var 1) (.cons (.var 2) (.cons (.cst (.int 1)) .nil)))) .nil [0, 1, 2, 3]) (.cst (.str []))))
  (.cons (.ret (.ite (.cmp .ne (.var 3) (.cst (.str []))) (.var 3) (.cst .non)))
  .nil)))
def F_letter_at (X : Ix) : MFn := ⟨3, 4, B_letter_at X⟩
/-! _law_tellings (k27 k28 k29) -/
def B_l_tellings_L1 (X : Ix) : MSs := (.cons (.expr (.mt .append (.var 1) (.cons (.mt .join (.cst (.str [])) (.cons (.comp (.name 3) [3] (.seq (.var 2)) .none (.ite (.bi1 (.isi .str) (.var 3)) (.var 3) (.idx (.var 1) (.var 3)))) .nil)) .nil)))
  .nil)
def B_l_tellings (X : Ix) : MSs := (.cons (.asg (.name 1) (.new .nil))
  (.cons (.forr (.name 2) (.seq (.var 0)) (B_l_tellings_L1 X))
  (.cons (.ret (.frz (.var 1)))
  .nil)))
def F_l_tellings (X : Ix) : MFn := ⟨1, 4, B_l_tellings X⟩
/-! first_place (k28 k65) -/
def B_first_place_L2 (X : Ix) : MSs := (.cons (.asg (.name 9) (.ite (.bi1 (.isi .str) (.var 6)) (.mt .find (.var 6) (.cons (.var 2) .nil)) (.idx (.var 5) (.var 6))))
  (.cons (.ite (.bop true (.cons (.isn true (.var 8)) (.cons (.isn false (.var 9)) (.cons (.cmp .ge (.var 9) (.cst (.int 0))) .nil)))) (.cons (.asg (.name 8) (.bin .add (.var 7) (.var 9)))
  .nil) .nil)
  (.cons (.aug 7 .add (.ite (.bi1 (.isi .str) (.var 6)) (.bi .len (.cons (.var 6) .nil)) (.idx (.var 4) (.var 6))))
  .nil)))
def B_first_place_L1 (X : Ix) : MSs := (.cons (.par [7, 8] (.cons (.cst (.int 0)) (.cons (.cst .non) .nil)))
  (.cons (.forr (.name 6) (.seq (.var 3)) (B_first_place_L2 X))
  (.cons (.expr (.mt .append (.var 5) (.cons (.var 8) .nil)))
  .nil)))
def B_first_place (X : Ix) : MSs := (.cons (.expr (.call X.check_piece (.cons (.var 0) (.cons (.var 1) .nil)) .nil [0, 1]))
  (.cons (.par [4, 5] (.cons (.call X.longs_of (.cons (.var 0) .nil) .nil [0]) (.cons (.new .nil) .nil)))
  (.cons (.forr (.name 3) (.seq (.var 0)) (B_first_place_L1 X))
  (.cons (.ret (.idx (.var 5) (.var 1)))
  .nil))))
def F_first_place (X : Ix) : MFn := ⟨3, 10, B_first_place X⟩
/-! last_place (k28 k65) -/
def B_last_place_L2 (X : Ix) : MSs := (.cons (.asg (.name 9) (.ite (.bi1 (.isi .str) (.var 6)) (.mt .rfind (.var 6) (.cons (.var 2) .nil)) (.idx (.var 5) (.var 6))))
  (.cons (.ite (.bop true (.cons (.isn false (.var 9)) (.cons (.cmp .ge (.var 9) (.cst (.int 0))) .nil))) (.cons (.asg (.name 8) (.bin .add (.var 7) (.var 9)))
  .nil) .nil)
  (.cons (.aug 7 .add (.ite (.bi1 (.isi .str) (.var 6)) (.bi .len (.cons (.var 6) .nil)) (.idx (.var 4) (.var 6))))
  .nil)))
def B_last_place_L1 (X : Ix) : MSs := (.cons (.par [7, 8] (.cons (.cst (.int 0)) (.cons (.cst .non) .nil)))
  (.cons (.forr (.name 6) (.seq (.var 3)) (B_last_place_L2 X))
  (.cons (.expr (.mt .append (.var 5) (.cons (.var 8) .nil)))
  .nil)))
def B_last_place (X : Ix) : MSs := (.cons (.expr (.call X.check_piece (.cons (.var 0) (.cons (.var 1) .nil)) .nil [0, 1]))
  (.cons (.par [4, 5] (.cons (.call X.longs_of (.cons (.var 0) .nil) .nil [0]) (.cons (.new .nil) .nil)))
  (.cons (.forr (.name 3) (.seq (.var 0)) (B_last_place_L1 X))
  (.cons (.ret (.idx (.var 5) (.var 1)))
  .nil))))
def F_last_place (X : Ix) : MFn := ⟨3, 10, B_last_place X⟩
/-! forms_of (k29 k65) -/
def B_forms_of_L2 (X : Ix) : MSs := (.cons (.asg (.name 3) (.call X.product (.cons (.var 3) (.cons (.ite (.bi1 (.isi .str) (.var 4)) (.call X.form_of (.cons (.var 4) .nil) .nil [0]) (.idx (.var 1) (.var 4))) .nil)) .nil [0, 1]))
  .nil)
def B_forms_of_L1 (X : Ix) : MSs := (.cons (.asg (.name 3) (.tup .nil))
  (.cons (.forr (.name 4) (.seq (.var 2)) (B_forms_of_L2 X))
  (.cons (.expr (.mt .append (.var 1) (.cons (.var 3) .nil)))
  .nil)))
def B_forms_of (X : Ix) : MSs := (.cons (.asg (.name 1) (.new .nil))
  (.cons (.forr (.name 2) (.seq (.var 0)) (B_forms_of_L1 X))
  (.cons (.ret (.frz (.var 1)))
  .nil)))
def F_forms_of (X : Ix) : MFn := ⟨1, 5, B_forms_of X⟩
/-! form_in (k29 k65) -/
def B_form_in (X : Ix) : MSs := (.cons (.expr (.call X.check_piece (.cons (.var 0) (.cons (.var 1) .nil)) .nil [0, 1]))
  (.cons (.ret (.idx (.call X.forms_of (.cons (.sl (.var 0) .none (.some (.bin .add (.var 1) (.cst (.int 1))))) .nil) .nil [0]) (.var 1)))
  .nil))
def F_form_in (X : Ix) : MFn := ⟨2, 2, B_form_in X⟩
/-! alike_pieces (k29 k65) -/
def B_alike_pieces (X : Ix) : MSs := (.cons (.ret (.cmp .eq (.call X.form_in (.cons (.var 0) (.cons (.var 1) .nil)) .nil [0, 1]) (.call X.form_in (.cons (.var 0) (.cons (.var 2) .nil)) .nil [0, 1])))
  .nil)
def F_alike_pieces (X : Ix) : MFn := ⟨3, 3, B_alike_pieces X⟩
/-! form_in_stretch (k29 k65) -/
def B_form_in_stretch_L1 (X : Ix) : MSs := (.cons (.asg (.tup [10, 11, 12]) (.call X.cut_to (.cons (.var 5) (.cons (.var 6) (.cons (.var 9) (.cons (.var 3) (.cons (.var 4) .nil))))) .nil [0, 1, 2, 3, 4]))
  (.cons (.ite (.cmp .lt (.var 10) (.var 11)) (.cons (.ite (.bi1 (.isi .str) (.var 5)) (.cons (.asg (.name 8) (.call X.product (.cons (.var 8) (.cons (.call X.form_of (.cons (.sl (.var 5) (.some (.var 10)) (.some (.var 11))) .nil) .nil [0]) .nil)) .nil [0, 1]))
  .nil) (.cons (.asg (.name 13) (.bop true (.cons (.cmp .eq (.var 10) (.cst (.int 0))) (.cons (.cmp .eq (.var 11) (.var 12)) .nil))))
  (.cons (.asg (.name 8) (.call X.product (.cons (.var 8) (.cons (.ite (.var 13) (.idx (.var 7) (.var 5)) (.call X.form_in_stretch (.cons (.var 0) (.cons (.var 1) (.cons (.var 5) (.cons (.var 10) (.cons (.var 11) .nil))))) .nil [0, 1, 2, 3, 4])) .nil)) .nil [0, 1]))
  .nil)))
  .nil) .nil)
  (.cons (.aug 9 .add (.var 12))
  .nil)))
def B_form_in_stretch (X : Ix) : MSs := (.cons (.asg (.tup [6, 7]) (.var 1))
  (.cons (.par [8, 9] (.cons (.tup .nil) (.cons (.cst (.int 0)) .nil)))
  (.cons (.forr (.name 5) (.seq (.idx (.var 0) (.var 2))) (B_form_in_stretch_L1 X))
  (.cons (.ret (.var 8))
  .nil))))
def F_form_in_stretch (X : Ix) : MFn := ⟨5, 14, B_form_in_stretch X⟩
/-! form_between (k29 k65) -/
def B_form_between (X : Ix) : MSs := (.cons (.expr (.call X.check_piece (.cons (.var 0) (.cons (.var 1) .nil)) .nil [0, 1]))
  (.cons (.ret (.call X.form_in_stretch (.cons (.var 0) (.cons (.tup (.cons (.call X.longs_of (.cons (.var 0) .nil) .nil [0]) (.cons (.call X.forms_of (.cons (.var 0) .nil) .nil [0]) .nil))) (.cons (.var 1) (.cons (.var 2) (.cons (.var 3) .nil))))) .nil [0, 1, 2, 3, 4]))
  .nil))
def F_form_between (X : Ix) : MFn := ⟨4, 4, B_form_between X⟩
/-! is_way (k30 k31 k32) -/
def B_is_way (X : Ix) : MSs := (.cons (.ret (.bop true (.cons (.bi1 (.isi .str) (.var 0)) (.cons (.bi .all (.cons (.comp (.name 1) [1] (.seq (.var 0)) .none (.cmp .inn (.var 1) (.glb X.gWAYS))) .nil)) .nil))))
  .nil)
def F_is_way (X : Ix) : MFn := ⟨1, 2, B_is_way X⟩
/-! is_question (k30 k31) -/
def B_is_question (X : Ix) : MSs := (.cons (.ret (.bop true (.cons (.bi1 (.isi .str) (.var 0)) (.cons (.cmp .ne (.var 0) (.cst (.str []))) (.cons (.call X.is_way (.cons (.sl (.var 0) .none (.some (.neg (.cst (.int 1))))) .nil) .nil [0]) (.cons (.cmp .inn (.idx (.var 0) (.neg (.cst (.int 1)))) (.glb X.gENDS)) .nil))))))
  .nil)
def F_is_question (X : Ix) : MFn := ⟨1, 1, B_is_question X⟩
/-! part_of (k30 k31 k32 k66) -/
def B_part_of_L1 (X : Ix) : MSs := (.cons (.ite (.cmp .ne (.var 0) (.cst (.str []))) (.cons (.asg (.name 0) (.ite (.cmp .eq (.var 2) (.glb X.gAHEAD)) (.idx (.call X.last_new (.cons (.var 0) .nil) .nil [0]) (.cst (.int 0))) (.idx (.call X.first_gone (.cons (.var 0) .nil) .nil [0]) (.cst (.int 1)))))
  .nil) .nil)
  .nil)
def B_part_of (X : Ix) : MSs := (.cons (.forr (.name 2) (.seq (.var 1)) (B_part_of_L1 X))
  (.cons (.ret (.var 0))
  .nil))
def F_part_of (X : Ix) : MFn := ⟨2, 3, B_part_of X⟩
/-! answer (k30 k31 k66) -/
def B_answer (X : Ix) : MSs := (.cons (.asg (.name 2) (.call X.part_of (.cons (.var 0) (.cons (.sl (.var 1) .none (.some (.neg (.cst (.int 1))))) .nil)) .nil [0, 1]))
  (.cons (.ite (.bop false (.cons (.cmp .eq (.var 2) (.cst (.str []))) (.cons (.cmp .eq (.idx (.var 1) (.neg (.cst (.int 1)))) (.glb X.gWHICH)) .nil))) (.cons (.ret (.call X.letters_of (.cons (.var 2) .nil) .nil [0]))
  .nil) .nil)
  (.cons (.ret (.ite (.cmp .eq (.idx (.var 1) (.neg (.cst (.int 1)))) (.glb X.gCAME)) (.idx (.call X.last_new (.cons (.var 2) .nil) .nil [0]) (.cst (.int 1))) (.idx (.call X.first_gone (.cons (.var 2) .nil) .nil [0]) (.cst (.int 0)))))
  .nil)))
def F_answer (X : Ix) : MFn := ⟨2, 3, B_answer X⟩
/-! _law_part (k30 k31 k32 k33) -/
def B_l_part_L1 (X : Ix) : MSs := (.cons (.ite (.cmp .ne (.var 0) (.cst (.str []))) (.cons (.asg (.name 0) (.ite (.cmp .eq (.var 2) (.cst (.str [60]))) (.idx (.call X.l_last_new (.cons (.var 0) .nil) .nil [0]) (.cst (.int 0))) (.rev (.idx (.call X.l_last_new (.cons (.rev (.var 0)) .nil) .nil [0]) (.cst (.int 0))))))
  .nil) .nil)
  .nil)
def B_l_part (X : Ix) : MSs := (.cons (.forr (.name 2) (.seq (.var 1)) (B_l_part_L1 X))
  (.cons (.ret (.var 0))
  .nil))
def F_l_part (X : Ix) : MFn := ⟨2, 3, B_l_part X⟩
/-! _law_told (k30 k31 k33) -/
def B_l_told (X : Ix) : MSs := (.cons (.asg (.name 2) (.call X.l_part (.cons (.var 0) (.cons (.sl (.var 1) .none (.some (.neg (.cst (.int 1))))) .nil)) .nil [0, 1]))
  (.cons (.ite (.cmp .eq (.var 2) (.cst (.str []))) (.cons (.ret (.cst (.str [])))
  .nil) .nil)
  (.cons (.ite (.cmp .eq (.idx (.var 1) (.neg (.cst (.int 1)))) (.cst (.str [63]))) (.cons (.ret (.mt .join (.cst (.str [])) (.cons (.bi1 .sset (.var 2)) .nil)))
  .nil) .nil)
  (.cons (.ret (.idx (.call X.l_last_new (.cons (.ite (.cmp .eq (.idx (.var 1) (.neg (.cst (.int 1)))) (.cst (.str [97]))) (.var 2) (.rev (.var 2))) .nil) .nil [0]) (.cst (.int 1))))
  .nil))))
def F_l_told (X : Ix) : MFn := ⟨2, 3, B_l_told X⟩
/-! parting_question (k31 k66) -/
def B_parting_question_L2 (X : Ix) : MSs := (.cons (.ite (.cmp .ne (.call X.answer (.cons (.var 0) (.cons (.bin .add (.var 2) (.var 3)) .nil)) .nil [0, 1]) (.call X.answer (.cons (.var 1) (.cons (.bin .add (.var 2) (.var 3)) .nil)) .nil [0, 1])) (.cons (.ret (.bin .add (.var 2) (.var 3)))
  .nil) .nil)
  .nil)
def B_parting_question_L1 (X : Ix) : MSs := (.cons (.forr (.name 3) (.seq (.glb X.gENDS)) (B_parting_question_L2 X))
  .nil)
def B_parting_question (X : Ix) : MSs := (.cons (.ite (.call X.alike (.cons (.var 0) (.cons (.var 1) .nil)) .nil [0, 1]) (.cons (.ret (.cst .non))
  .nil) .nil)
  (.cons (.forr (.name 2) (.seq (.call X.all_ways (.cons (.bin .add (.bi .len (.cons (.glb X.gALPHABET) .nil)) (.cst (.int 1))) .nil) .nil [0])) (B_parting_question_L1 X))
  (.cons (.ret (.cst .non))
  .nil)))
def F_parting_question (X : Ix) : MFn := ⟨2, 4, B_parting_question X⟩
/-! is_parting (k31) -/
def B_is_parting (X : Ix) : MSs := (.cons (.ret (.bop true (.cons (.call X.is_question (.cons (.var 2) .nil) .nil [0]) (.cons (.cmp .ne (.call X.answer (.cons (.var 0) (.cons (.var 2) .nil)) .nil [0, 1]) (.call X.answer (.cons (.var 1) (.cons (.var 2) .nil)) .nil [0, 1])) .nil))))
  .nil)
def F_is_parting (X : Ix) : MFn := ⟨3, 3, B_is_parting X⟩
/-! _law_ways (k31 k32) -/
def B_l_ways_L1 (X : Ix) : MSs := (.cons (.asg (.name 2) (.bin .add (.var 2) (.var 3)))
  (.cons (.asg (.name 3) (.bi .sorted (.cons (.bin .add (.comp (.name 4) [4] (.seq (.var 3)) .none (.bin .add (.var 4) (.cst (.str [60])))) (.comp (.name 4) [4] (.seq (.var 3)) .none (.bin .add (.var 4) (.cst (.str [62]))))) .nil)))
  .nil))
def B_l_ways (X : Ix) : MSs := (.cons (.par [2, 3] (.cons (.lst .nil) (.cons (.lst (.cons (.cst (.str [])) .nil)) .nil)))
  (.cons (.forr (.name 1) (.range1 (.var 0)) (B_l_ways_L1 X))
  (.cons (.ret (.var 2))
  .nil)))
def F_l_ways (X : Ix) : MFn := ⟨1, 5, B_l_ways X⟩
/-! sheet_of (k32 k66) -/
def B_sheet_of_L1 (X : Ix) : MSs := (.cons (.asg (.name 3) (.call X.part_of (.cons (.var 0) (.cons (.var 2) .nil)) .nil [0, 1]))
  (.cons (.ite (.cmp .ne (.var 3) (.cst (.str []))) (.cons (.expr (.mt .append (.var 1) (.cons (.tup (.cons (.var 2) (.cons (.idx (.call X.last_new (.cons (.var 3) .nil) .nil [0]) (.cst (.int 1))) (.cons (.idx (.call X.first_gone (.cons (.var 3) .nil) .nil [0]) (.cst (.int 0))) .nil)))) .nil)))
  .nil) .nil)
  .nil))
def B_sheet_of (X : Ix) : MSs := (.cons (.asg (.name 1) (.new .nil))
  (.cons (.forr (.name 2) (.seq (.call X.all_ways (.cons (.bi .len (.cons (.call X.letters_of (.cons (.var 0) .nil) .nil [0]) .nil)) .nil) .nil [0])) (B_sheet_of_L1 X))
  (.cons (.ret (.bi .tuple (.cons (.var 1) .nil)))
  .nil)))
def F_sheet_of (X : Ix) : MFn := ⟨1, 4, B_sheet_of X⟩
/-! told_at (k32 k66) -/
def B_told_at (X : Ix) : MSs := (.cons (.ite (.cmp .nin (.var 1) (.var 0)) (.cons (.ret (.tup .nil))
  .nil) .nil)
  (.cons (.asg (.tup [2, 3]) (.idx (.var 0) (.var 1)))
  (.cons (.ret (.tup (.cons (.call X.told_at (.cons (.var 0) (.cons (.bin .add (.var 1) (.glb X.gAHEAD)) .nil)) .nil [0, 1]) (.cons (.var 2) (.cons (.var 3) (.cons (.call X.told_at (.cons (.var 0) (.cons (.bin .add (.var 1) (.glb X.gBEHIND)) .nil)) .nil [0, 1]) .nil))))))
  .nil)))
def F_told_at (X : Ix) : MFn := ⟨2, 4, B_told_at X⟩
/-! letters_at (k32) -/
def B_letters_at (X : Ix) : MSs := (.cons (.ite (.cmp .nin (.var 1) (.var 0)) (.cons (.ret (.cst (.str [])))
  .nil) .nil)
  (.cons (.asg (.tup [3, 4]) (.idx (.var 0) (.var 1)))
  (.cons (.par [5, 6] (.cons (.call X.letters_at (.cons (.var 0) (.cons (.bin .add (.var 1) (.glb X.gAHEAD)) .nil)) .nil [0, 1]) (.cons (.call X.letters_at (.cons (.var 0) (.cons (.bin .add (.var 1) (.glb X.gBEHIND)) .nil)) .nil [0, 1]) .nil)))
  (.cons (.ite (.bop false (.cons (.isn true (.var 5)) (.cons (.isn true (.var 6)) (.cons (.cmp .inn (.var 3) (.var 5)) (.cons (.cmp .inn (.var 4) (.var 6)) .nil))))) (.cons (.ret (.cst .non))
  .nil) .nil)
  (.cons (.asg (.name 2) (.call X.letters_of (.cons (.bin .add (.var 5) (.var 3)) .nil) .nil [0]))
  (.cons (.ret (.ite (.cmp .eq (.var 2) (.call X.letters_of (.cons (.bin .add (.var 6) (.var 4)) .nil) .nil [0])) (.var 2) (.cst .non)))
  .nil))))))
def F_letters_at (X : Ix) : MFn := ⟨2, 7, B_letters_at X⟩
/-! is_row (k32) -/
def B_is_row (X : Ix) : MSs := (.cons (.ite (.bop false (.cons (.not (.bi1 (.isi .tuple) (.var 0))) (.cons (.cmp .ne (.bi .len (.cons (.var 0) .nil)) (.glb X.gTRIPLE)) (.cons (.not (.call X.is_way (.cons (.idx (.var 0) (.cst (.int 0))) .nil) .nil [0])) .nil)))) (.cons (.ret (.cst (.bl false)))
  .nil) .nil)
  (.cons (.ret (.bi .all (.cons (.comp (.name 1) [1] (.seq (.sl (.var 0) (.some (.cst (.int 1))) .none)) .none (.bop true (.cons (.bi1 (.isi .str) (.var 1)) (.cons (.cmp .eq (.bi .len (.cons (.var 1) .nil)) (.cst (.int 1))) (.cons (.cmp .inn (.var 1) (.glb X.gALPHABET)) .nil))))) .nil)))
  .nil))
def F_is_row (X : Ix) : MFn := ⟨1, 2, B_is_row X⟩
/-! count_free (k33 k66) -/
def B_count_free_L1 (X : Ix) : MSs := (.cons (.asg (.name 1) (.bin .pow (.bin .mul (.var 2) (.var 1)) (.cst (.int 2))))
  .nil)
def B_count_free (X : Ix) : MSs := (.cons (.asg (.name 1) (.cst (.int 1)))
  (.cons (.forr (.name 2) (.range2 (.cst (.int 1)) (.bin .add (.var 0) (.cst (.int 1)))) (B_count_free_L1 X))
  (.cons (.ret (.var 1))
  .nil)))
def F_count_free (X : Ix) : MFn := ⟨1, 3, B_count_free X⟩
/-! how_many_answer (k33 k66) -/
def B_how_many_answer (X : Ix) : MSs := (.cons (.asg (.name 2) (.call X.asked_at (.cons (.var 1) .nil) .nil [0]))
  (.cons (.ite (.isn true (.var 2)) (.cons (.ret (.cst (.int 0)))
  .nil) .nil)
  (.cons (.ret (.call X.count_asked (.cons (.var 2) (.cons (.cst (.str [])) (.cons (.var 0) (.cons .dnew .nil)))) .nil [0, 1, 2, 3]))
  .nil)))
def F_how_many_answer (X : Ix) : MFn := ⟨2, 3, B_how_many_answer X⟩
/-! form_that_answers (k33 k66) -/
def B_form_that_answers (X : Ix) : MSs := (.cons (.ite (.cmp .eq (.call X.how_many_answer (.cons (.var 0) (.cons (.var 1) .nil)) .nil [0, 1]) (.cst (.int 0))) (.cons (.ret (.cst .non))
  .nil) .nil)
  (.cons (.ret (.call X.form_asked (.cons (.call X.asked_at (.cons (.var 1) .nil) .nil [0]) (.cons (.cst (.str [])) (.cons (.var 0) (.cons .dnew .nil)))) .nil [0, 1, 2, 3]))
  .nil))
def F_form_that_answers (X : Ix) : MFn := ⟨2, 2, B_form_that_answers X⟩
/-! all_sets (k33 k66) -/
def B_all_sets_L1 (X : Ix) : MSs := (.cons (.asg (.name 1) (.bin .add (.var 1) (.comp (.name 3) [3] (.seq (.var 1)) .none (.bin .add (.var 3) (.var 2)))))
  .nil)
def B_all_sets (X : Ix) : MSs := (.cons (.asg (.name 1) (.lst (.cons (.cst (.str [])) .nil)))
  (.cons (.forr (.name 2) (.seq (.var 0)) (B_all_sets_L1 X))
  (.cons (.ret (.var 1))
  .nil)))
def F_all_sets (X : Ix) : MFn := ⟨1, 4, B_all_sets X⟩
/-! left_out (k34 k35 k67) -/
def B_left_out (X : Ix) : MSs := (.cons (.expr (.call X.check_places (.cons (.var 0) (.cons (.var 1) (.cons (.var 2) .nil))) .nil [0, 1, 2]))
  (.cons (.ret (.bin .add (.sl (.var 0) .none (.some (.var 1))) (.sl (.var 0) (.some (.var 2)) .none)))
  .nil))
def F_left_out (X : Ix) : MFn := ⟨3, 3, B_left_out X⟩
/-! is_idle (k34 k35 k67) -/
def B_is_idle (X : Ix) : MSs := (.cons (.ret (.call X.alike (.cons (.var 0) (.cons (.call X.left_out (.cons (.var 0) (.cons (.var 1) (.cons (.var 2) .nil))) .nil [0, 1, 2]) .nil)) .nil [0, 1]))
  .nil)
def F_is_idle (X : Ix) : MFn := ⟨3, 3, B_is_idle X⟩
/-! idle_places (k34 k67) -/
def B_idle_places (X : Ix) : MSs := (.cons (.ret (.bi .tuple (.cons (.comp (.name 1) [1] (.range1 (.bi .len (.cons (.var 0) .nil))) (.some (.call X.is_idle (.cons (.var 0) (.cons (.var 1) (.cons (.bin .add (.var 1) (.cst (.int 1))) .nil))) .nil [0, 1, 2])) (.var 1)) .nil)))
  .nil)
def F_idle_places (X : Ix) : MFn := ⟨1, 2, B_idle_places X⟩
/-! thinned (k34 k67) -/
def B_thinned_L1 (X : Ix) : MSs := (.cons (.asg (.name 2) (.bin .add (.sl (.var 0) .none (.some (.var 1))) (.sl (.var 0) (.some (.bin .add (.var 1) (.cst (.int 1)))) .none)))
  (.cons (.asg (.tup [0, 1]) (.ite (.call X.alike (.cons (.var 0) (.cons (.var 2) .nil)) .nil [0, 1]) (.tup (.cons (.var 2) (.cons (.var 1) .nil))) (.tup (.cons (.var 0) (.cons (.bin .add (.var 1) (.cst (.int 1))) .nil)))))
  .nil))
def B_thinned (X : Ix) : MSs := (.cons (.asg (.name 1) (.cst (.int 0)))
  (.cons (.whil 100000 (.cmp .lt (.var 1) (.bi .len (.cons (.var 0) .nil))) (B_thinned_L1 X))
  (.cons (.ret (.var 0))
  .nil)))
def F_thinned (X : Ix) : MFn := ⟨1, 3, B_thinned X⟩
/-! doubled (k34 k67) -/
def B_doubled (X : Ix) : MSs := (.cons (.expr (.call X.check_places (.cons (.var 0) (.cons (.var 1) (.cons (.var 2) .nil))) .nil [0, 1, 2]))
  (.cons (.ret (.bin .add (.sl (.var 0) .none (.some (.var 2))) (.sl (.var 0) (.some (.var 1)) .none)))
  .nil))
def F_doubled (X : Ix) : MFn := ⟨3, 3, B_doubled X⟩
/-! without_doubles (k35 k67) -/
def B_without_doubles_L1 (X : Ix) : MSs := (.cons (.asg (.name 0) (.call X.left_out (.cons (.var 0) (.cons (.idx (.idx (.var 1) (.cst (.int 0))) (.cst (.int 0))) (.cons (.bin .add (.idx (.idx (.var 1) (.cst (.int 0))) (.cst (.int 0))) (.idx (.idx (.var 1) (.cst (.int 0))) (.cst (.int 1)))) .nil))) .nil [0, 1, 2]))
  (.cons (.asg (.name 1) (.call X.doubles (.cons (.var 0) .nil) .nil [0]))
  .nil))
def B_without_doubles (X : Ix) : MSs := (.cons (.asg (.name 1) (.call X.doubles (.cons (.var 0) .nil) .nil [0]))
  (.cons (.whil 100000 (.cmp .gt (.bi .len (.cons (.var 1) .nil)) (.cst (.int 0))) (B_without_doubles_L1 X))
  (.cons (.ret (.var 0))
  .nil)))
def F_without_doubles (X : Ix) : MFn := ⟨1, 2, B_without_doubles X⟩
/-! common (k36 k37 k67) -/
def B_common_L1 (X : Ix) : MSs := (.cons (.aug 2 .add (.cst (.int 1)))
  .nil)
def B_common (X : Ix) : MSs := (.cons (.asg (.name 2) (.cst (.int 0)))
  (.cons (.whil 100000 (.bop true (.cons (.cmp .lt (.var 2) (.bi .min (.cons (.bi .len (.cons (.var 0) .nil)) (.cons (.bi .len (.cons (.var 1) .nil)) .nil)))) (.cons (.cmp .eq (.idx (.var 0) (.var 2)) (.idx (.var 1) (.var 2))) .nil))) (B_common_L1 X))
  (.cons (.ret (.var 2))
  .nil)))
def F_common (X : Ix) : MFn := ⟨2, 3, B_common X⟩
/-! is_shortening (k36 k37 k67) -/
def B_is_shortening (X : Ix) : MSs := (.cons (.asg (.name 2) (.bin .sub (.bi .len (.cons (.var 0) .nil)) (.bi .len (.cons (.var 1) .nil))))
  (.cons (.ite (.cmp .lt (.var 2) (.cst (.int 1))) (.cons (.ret (.cst (.bl false)))
  .nil) .nil)
  (.cons (.asg (.name 3) (.bin .sub (.bi .len (.cons (.var 1) .nil)) (.call X.common (.cons (.rev (.var 0)) (.cons (.rev (.var 1)) .nil)) .nil [0, 1])))
  (.cons (.asg (.name 4) (.bi .min (.cons (.call X.common (.cons (.var 0) (.cons (.var 1) .nil)) .nil [0, 1]) (.cons (.bin .add (.var 3) (.var 2)) .nil))))
  (.cons (.ret (.bop true (.cons (.cmp .gt (.var 4) (.var 3)) (.cons (.bi .all (.cons (.comp (.name 5) [5] (.seq (.sl (.var 0) (.some (.var 4)) (.some (.bin .add (.var 3) (.var 2))))) .none (.cmp .inn (.var 5) (.sl (.var 0) (.some (.var 3)) (.some (.var 4))))) .nil)) .nil))))
  .nil)))))
def F_is_shortening (X : Ix) : MFn := ⟨2, 6, B_is_shortening X⟩
/-! _law_short (k36 k37) -/
def B_l_short_L2 (X : Ix) : MSs := (.cons (.asg (.name 5) (.comp (.name 6) [6] (.seq (.sl (.var 0) (.some (.var 4)) (.some (.bin .add (.var 3) (.var 2))))) (.some (.cmp .nin (.var 6) (.sl (.var 0) (.some (.var 3)) (.some (.var 4))))) (.var 6)))
  (.cons (.ite (.bop true (.cons (.cmp .eq (.var 5) (.lst .nil)) (.cons (.cmp .eq (.sl (.var 0) .none (.some (.var 4))) (.sl (.var 1) .none (.some (.var 4)))) .nil))) (.cons (.ret (.cst (.bl true)))
  .nil) .nil)
  .nil))
def B_l_short_L1 (X : Ix) : MSs := (.cons (.ite (.cmp .eq (.sl (.var 0) (.some (.bin .add (.var 3) (.var 2))) .none) (.sl (.var 1) (.some (.var 3)) .none)) (.cons (.forr (.name 4) (.range2 (.bin .add (.var 3) (.cst (.int 1))) (.bin .add (.bi .min (.cons (.bi .len (.cons (.var 1) .nil)) (.cons (.bin .add (.var 3) (.var 2)) .nil))) (.cst (.int 1)))) (B_l_short_L2 X))
  .nil) .nil)
  .nil)
def B_l_short (X : Ix) : MSs := (.cons (.asg (.name 2) (.bin .sub (.bi .len (.cons (.var 0) .nil)) (.bi .len (.cons (.var 1) .nil))))
  (.cons (.forr (.name 3) (.range1 (.bin .mul (.bi .len (.cons (.var 1) .nil)) (.bi .int (.cons (.cmp .gt (.var 2) (.cst (.int 0))) .nil)))) (B_l_short_L1 X))
  (.cons (.ret (.cst (.bl false)))
  .nil)))
def F_l_short (X : Ix) : MFn := ⟨2, 7, B_l_short X⟩
/-! chain_between (k37 k67) -/
def B_chain_between (X : Ix) : MSs := (.cons (.ite (.not (.call X.alike (.cons (.var 0) (.cons (.var 1) .nil)) .nil [0, 1])) (.cons (.ret (.cst .non))
  .nil) .nil)
  (.cons (.asg (.name 2) (.bin .add (.call X.chain_down (.cons (.var 0) .nil) .nil [0]) (.rev (.call X.chain_down (.cons (.var 1) .nil) .nil [0]))))
  (.cons (.ret (.bi .tuple (.cons (.comp (.tup [3, 4]) [3, 4] (.enum (.var 2)) (.some (.bop false (.cons (.cmp .eq (.var 3) (.cst (.int 0))) (.cons (.cmp .ne (.idx (.var 2) (.bin .sub (.var 3) (.cst (.int 1)))) (.var 4)) .nil)))) (.var 4)) .nil)))
  .nil)))
def F_chain_between (X : Ix) : MFn := ⟨2, 5, B_chain_between X⟩
/-! is_chain (k37 k67) -/
def B_is_chain (X : Ix) : MSs := (.cons (.ite (.bop false (.cons (.not (.bi1 (.isi .tuple) (.var 2))) (.cons (.cmp .eq (.bi .len (.cons (.var 2) .nil)) (.cst (.int 0))) (.cons (.not (.bi .all (.cons (.comp (.name 3) [3] (.seq (.var 2)) .none (.bi1 (.isi .str) (.var 3))) .nil))) .nil)))) (.cons (.ret (.cst (.bl false)))
  .nil) .nil)
  (.cons (.ite (.bop false (.cons (.cmp .ne (.idx (.var 2) (.cst (.int 0))) (.var 0)) (.cons (.cmp .ne (.idx (.var 2) (.neg (.cst (.int 1)))) (.var 1)) .nil))) (.cons (.ret (.cst (.bl false)))
  .nil) .nil)
  (.cons (.ret (.bi .all (.cons (.comp (.tup [3, 4]) [3, 4] (.zip (.var 2) (.sl (.var 2) (.some (.cst (.int 1))) .none)) .none (.bop false (.cons (.call X.is_shortening (.cons (.var 3) (.cons (.var 4) .nil)) .nil [0, 1]) (.cons (.call X.is_shortening (.cons (.var 4) (.cons (.var 3) .nil)) .nil [0, 1]) .nil)))) .nil)))
  .nil)))
def F_is_chain (X : Ix) : MFn := ⟨3, 5, B_is_chain X⟩
/-! are_numbers (k38 k41 k42 k44 k68) -/
def B_are_numbers (X : Ix) : MSs := (.cons (.ret (.bop true (.cons (.bi1 (.isi .tuple) (.var 0)) (.cons (.cmp .eq (.bi .len (.cons (.var 0) .nil)) (.var 1)) (.cons (.bi .all (.cons (.comp (.name 3) [3] (.seq (.var 0)) .none (.bop true (.cons (.call X.is_number (.cons (.var 3) .nil) .nil [0]) (.cons (.cmp .ge (.var 3) (.var 2)) .nil)))) .nil)) .nil)))))
  .nil)
def F_are_numbers (X : Ix) : MFn := ⟨3, 4, B_are_numbers X⟩
/-! rises (k38 k41 k42 k44 k68) -/
def B_rises (X : Ix) : MSs := (.cons (.ret (.bi .all (.cons (.comp (.tup [1, 2]) [1, 2] (.zip (.var 0) (.sl (.var 0) (.some (.cst (.int 1))) .none)) .none (.cmp .lt (.var 1) (.var 2))) .nil)))
  .nil)
def F_rises (X : Ix) : MFn := ⟨1, 3, B_rises X⟩
/-! is_known (k38 k41 k42 k44 k68) -/
def B_is_known (X : Ix) : MSs := (.cons (.ite (.bop false (.cons (.not (.bi1 (.isi .tuple) (.var 1))) (.cons (.cmp .ne (.bi .len (.cons (.var 1) .nil)) (.glb X.gPAIR)) (.cons (.not (.bi1 (.isi .str) (.idx (.var 1) (.cst (.int 0))))) (.cons (.cmp .ne (.bi .len (.cons (.idx (.var 1) (.cst (.int 0))) .nil)) (.cst (.int 1))) .nil))))) (.cons (.ret (.cst (.bl false)))
  .nil) .nil)
  (.cons (.ret (.bop true (.cons (.cmp .inn (.idx (.var 1) (.cst (.int 0))) (.glb X.gALPHABET)) (.cons (.call X.are_numbers (.cons (.idx (.var 1) (.cst (.int 1))) (.cons (.var 0) (.cons (.cst (.int 0)) .nil))) .nil [0, 1, 2]) (.cons (.cmp .lt (.bi .max (.cons (.idx (.var 1) (.cst (.int 1))) .nil)) (.var 0)) .nil)))))
  .nil))
def F_is_known (X : Ix) : MFn := ⟨2, 2, B_is_known X⟩
/-! is_machine (k38 k41 k42 k44 k68) -/
def B_is_machine (X : Ix) : MSs := (.cons (.ite (.bop false (.cons (.not (.bi1 (.isi .tuple) (.var 0))) (.cons (.cmp .ne (.bi .len (.cons (.var 0) .nil)) (.glb X.gPAIR)) (.cons (.not (.call X.is_number (.cons (.idx (.var 0) (.cst (.int 0))) .nil) .nil [0])) (.cons (.cmp .lt (.idx (.var 0) (.cst (.int 0))) (.cst (.int 1))) .nil))))) (.cons (.ret (.cst (.bl false)))
  .nil) .nil)
  (.cons (.ite (.bop false (.cons (.not (.bi1 (.isi .tuple) (.idx (.var 0) (.cst (.int 1))))) (.cons (.cmp .eq (.bi .len (.cons (.idx (.var 0) (.cst (.int 1))) .nil)) (.cst (.int 0))) (.cons (.not (.bi .all (.cons (.comp (.name 3) [3] (.seq (.idx (.var 0) (.cst (.int 1)))) .none (.call X.is_known (.cons (.idx (.var 0) (.cst (.int 0))) (.cons (.var 3) .nil)) .nil [0, 1])) .nil))) .nil)))) (.cons (.ret (.cst (.bl false)))
  .nil) .nil)
  (.cons (.ret (.call X.rises (.cons (.comp (.tup [1, 2]) [1, 2] (.seq (.idx (.var 0) (.cst (.int 1)))) .none (.var 1)) .nil) .nil [0]))
  .nil)))
def F_is_machine (X : Ix) : MFn := ⟨1, 4, B_is_machine X⟩
/-! known_letters (k38 k39 k40 k41 k42 k43 k44 k68 k69) -/
def B_known_letters (X : Ix) : MSs := (.cons (.ret (.mt .join (.cst (.str [])) (.cons (.comp (.tup [1, 2]) [1, 2] (.seq (.idx (.var 0) (.cst (.int 1)))) .none (.var 1)) .nil)))
  .nil)
def F_known_letters (X : Ix) : MFn := ⟨1, 3, B_known_letters X⟩
/-! _law_any_machine (k38 k39 k40 k41 k42 k43 k45 k68) -/
def B_l_any_machine_L1 (X : Ix) : MSs := (.cons (.asg (.name 5) (.comp (.name 6) [6] (.range1 (.var 1)) .none (.call X.l_take (.cons (.var 0) (.cons (.var 1) .nil)) .nil [0, 1])))
  (.cons (.ite (.cmp .gt (.call X.l_take (.cons (.var 0) (.cons (.cst (.int 4)) .nil)) .nil [0, 1]) (.cst (.int 0))) (.cons (.asg (.name 5) (.comp (.name 7) [7] (.seq (.var 5)) .none (.ite (.cmp .eq (.idx (.var 5) (.var 7)) (.var 7)) (.var 7) (.bi .min (.cons (.var 7) (.cons (.idx (.var 5) (.var 7)) .nil))))))
  (.cons (.asg (.name 5) (.comp (.name 7) [7] (.seq (.var 5)) .none (.ite (.cmp .eq (.idx (.var 5) (.idx (.var 5) (.var 7))) (.idx (.var 5) (.var 7))) (.idx (.var 5) (.var 7)) (.var 7))))
  .nil)) .nil)
  (.cons (.expr (.mt .append (.var 3) (.cons (.tup (.cons (.var 4) (.cons (.bi .tuple (.cons (.var 5) .nil)) .nil))) .nil)))
  .nil)))
def B_l_any_machine (X : Ix) : MSs := (.cons (.asg (.name 3) (.new .nil))
  (.cons (.forr (.name 4) (.seq (.var 2)) (B_l_any_machine_L1 X))
  (.cons (.ret (.tup (.cons (.var 1) (.cons (.bi .tuple (.cons (.var 3) .nil)) .nil))))
  .nil)))
def F_l_any_machine (X : Ix) : MFn := ⟨3, 8, B_l_any_machine X⟩
/-! check_known (k39 k42 k43 k44 k68 k69) -/
def B_check_known_L1 (X : Ix) : MSs := (.cons (.ite (.cmp .nin (.var 3) (.var 2)) (.cons .never
  .nil) .nil)
  .nil)
def B_check_known (X : Ix) : MSs := (.cons (.asg (.name 2) (.call X.known_letters (.cons (.var 0) .nil) .nil [0]))
  (.cons (.forr (.name 3) (.seq (.var 1)) (B_check_known_L1 X))
  .nil))
def F_check_known (X : Ix) : MFn := ⟨2, 4, B_check_known X⟩
/-! check_state (k39 k44 k45 k46 k68 k69) -/
def B_check_state (X : Ix) : MSs := (.cons (.ite (.not (.chain .le .lt (.cst (.int 0)) (.var 1) (.idx (.var 0) (.cst (.int 0))))) (.cons .never
  .nil) .nil)
  .nil)
def F_check_state (X : Ix) : MFn := ⟨2, 2, B_check_state X⟩
/-! led (k39 k44 k68 k69) -/
def B_led_L1 (X : Ix) : MSs := (.cons (.asg (.name 5) (.idx (.idx (.var 4) (.var 3)) (.var 5)))
  .nil)
def B_led (X : Ix) : MSs := (.cons (.expr (.call X.check_state (.cons (.var 0) (.cons (.var 1) .nil)) .nil [0, 1]))
  (.cons (.expr (.call X.check_known (.cons (.var 0) (.cons (.var 2) .nil)) .nil [0, 1]))
  (.cons (.par [4, 5] (.cons (.call X.maps_of (.cons (.var 0) .nil) .nil [0]) (.cons (.var 1) .nil)))
  (.cons (.forr (.name 3) (.seq (.var 2)) (B_led_L1 X))
  (.cons (.ret (.var 5))
  .nil)))))
def F_led (X : Ix) : MFn := ⟨3, 6, B_led X⟩
/-! same_here (k39 k44 k68) -/
def B_same_here (X : Ix) : MSs := (.cons (.ret (.cmp .eq (.call X.map_of (.cons (.var 0) (.cons (.var 1) .nil)) .nil [0, 1]) (.call X.map_of (.cons (.var 0) (.cons (.var 2) .nil)) .nil [0, 1])))
  .nil)
def F_same_here (X : Ix) : MFn := ⟨3, 3, B_same_here X⟩
/-! _law_knows (k40 k41 k43 k45) -/
def B_l_knows (X : Ix) : MSs := (.cons (.ret (.mt .join (.cst (.str [])) (.cons (.comp (.name 1) [1] (.seq (.idx (.var 0) (.cst (.int 1)))) .none (.idx (.var 1) (.cst (.int 0)))) .nil)))
  .nil)
def F_l_knows (X : Ix) : MFn := ⟨1, 2, B_l_knows X⟩
/-! _law_acts (k40 k41 k43) -/
def B_l_acts_L3 (X : Ix) : MSs := (.cons (.asg (.name 7) (.call X.l_map (.cons (.var 0) (.cons (.bin .add (.var 5) (.var 6)) .nil)) .nil [0, 1]))
  (.cons (.ite (.cmp .nin (.var 7) (.var 1)) (.cons (.expr (.mt .append (.var 1) (.cons (.var 7) .nil)))
  (.cons (.expr (.mt .append (.var 2) (.cons (.tup (.cons (.var 7) (.cons (.bin .add (.var 5) (.var 6)) .nil))) .nil)))
  (.cons (.expr (.mt .append (.var 4) (.cons (.bin .add (.var 5) (.var 6)) .nil)))
  .nil))) .nil)
  .nil))
def B_l_acts_L2 (X : Ix) : MSs := (.cons (.forr (.name 6) (.seq (.call X.l_knows (.cons (.var 0) .nil) .nil [0])) (B_l_acts_L3 X))
  .nil)
def B_l_acts_L1 (X : Ix) : MSs := (.cons (.asg (.name 4) (.new .nil))
  (.cons (.forr (.name 5) (.seq (.var 3)) (B_l_acts_L2 X))
  (.cons (.asg (.name 3) (.frz (.var 4)))
  .nil)))
def B_l_acts (X : Ix) : MSs := (.cons (.par [1, 2, 3] (.cons (.new .nil) (.cons (.new .nil) (.cons (.lst (.cons (.cst (.str [])) .nil)) .nil))))
  (.cons (.whil 100000 (.cmp .ne (.var 3) (.lst .nil)) (B_l_acts_L1 X))
  (.cons (.ret (.frz (.var 2)))
  .nil)))
def F_l_acts (X : Ix) : MFn := ⟨1, 8, B_l_acts X⟩
/-! is_house (k41 k42 k44 k68) -/
def B_is_house (X : Ix) : MSs := (.cons (.ret (.bop true (.cons (.call X.is_machine (.cons (.var 0) .nil) .nil [0]) (.cons (.isn true (.call X.bad_row (.cons (.var 0) .nil) .nil [0])) .nil))))
  .nil)
def F_is_house (X : Ix) : MFn := ⟨1, 1, B_is_house X⟩
/-! check_house (k41 k43 k68) -/
def B_check_house (X : Ix) : MSs := (.cons (.asg (.name 1) (.call X.bad_row (.cons (.var 0) .nil) .nil [0]))
  (.cons (.ite (.isn false (.var 1)) (.cons .never
  .nil) .nil)
  .nil))
def F_check_house (X : Ix) : MFn := ⟨1, 2, B_check_house X⟩
/-! _law_worst (k41 k43) -/
def B_l_worst_L1 (X : Ix) : MSs := (.cons (.ite (.cmp .ne (.bi .tuple (.cons (.comp (.name 3) [3] (.seq (.var 1)) .none (.idx (.var 1) (.var 3))) .nil)) (.var 1)) (.cons (.ret (.var 2))
  .nil) .nil)
  .nil)
def B_l_worst (X : Ix) : MSs := (.cons (.forr (.tup [1, 2]) (.seq (.call X.l_acts (.cons (.var 0) .nil) .nil [0])) (B_l_worst_L1 X))
  (.cons (.ret (.cst .non))
  .nil))
def F_l_worst (X : Ix) : MFn := ⟨1, 4, B_l_worst X⟩
/-! _law_told_facts (k41 k42 k43 k68) -/
def B_l_told_facts_L2 (X : Ix) : MSs := (.cons (.asg (.name 6) (.ite (.cmp .inn (.var 4) (.var 6)) (.var 6) (.bin .add (.var 6) (.var 4))))
  .nil)
def B_l_told_facts_L1 (X : Ix) : MSs := (.cons (.ite (.cmp .eq (.var 3) (.cst (.str [70]))) (.cons (.expr (.mt .append (.var 2) (.cons (.sl (.var 1) .none (.some (.cst (.int 1)))) .nil)))
  .nil) (.cons (.ite (.cmp .eq (.var 3) (.cst (.str [76]))) (.cons (.expr (.mt .append (.var 2) (.cons (.sl (.var 1) (.some (.neg (.cst (.int 1)))) .none) .nil)))
  .nil) (.cons (.ite (.cmp .eq (.var 3) (.cst (.str [83]))) (.cons (.expr (.mt .append (.var 2) (.cons (.mt .join (.cst (.str [])) (.cons (.bi1 .sset (.var 1)) .nil)) .nil)))
  .nil) (.cons (.par [5, 6] (.cons (.ite (.cmp .eq (.var 3) (.cst (.str [78]))) (.var 1) (.rev (.var 1))) (.cons (.cst (.str [])) .nil)))
  (.cons (.forr (.name 4) (.seq (.var 5)) (B_l_told_facts_L2 X))
  (.cons (.expr (.mt .append (.var 2) (.cons (.var 6) .nil)))
  .nil))))
  .nil))
  .nil))
  .nil)
def B_l_told_facts (X : Ix) : MSs := (.cons (.asg (.name 2) (.new .nil))
  (.cons (.forr (.name 3) (.seq (.var 0)) (B_l_told_facts_L1 X))
  (.cons (.ret (.bi .tuple (.cons (.var 2) .nil)))
  .nil)))
def F_l_told_facts (X : Ix) : MFn := ⟨2, 7, B_l_told_facts X⟩
/-! _law_signs (k41 k43) -/
def B_l_signs (X : Ix) : MSs := (.cons (.asg (.name 0) (.lst (.cons (.tup (.cons (.cst (.str [102, 105, 114, 115, 116])) (.cons (.cst (.str [70])) .nil))) (.cons (.tup (.cons (.cst (.str [108, 97, 115, 116])) (.cons (.cst (.str [76])) .nil))) (.cons (.tup (.cons (.cst (.str [101, 110, 100, 115])) (.cons (.cst (.str [70, 76])) .nil))) (.cons (.tup (.cons (.cst (.str [108, 101, 116, 116, 101, 114, 115])) (.cons (.cst (.str [83])) .nil))) (.cons (.tup (.cons (.cst (.str [102, 105, 114, 115, 116, 32, 108, 101, 116, 116, 101, 114, 115])) (.cons (.cst (.str [70, 83])) .nil))) .nil)))))))
  (.cons (.asg (.name 0) (.bin .add (.var 0) (.lst (.cons (.tup (.cons (.cst (.str [108, 97, 115, 116, 32, 108, 101, 116, 116, 101, 114, 115])) (.cons (.cst (.str [76, 83])) .nil))) (.cons (.tup (.cons (.cst (.str [101, 110, 100, 115, 32, 108, 101, 116, 116, 101, 114, 115])) (.cons (.cst (.str [70, 76, 83])) .nil))) (.cons (.tup (.cons (.cst (.str [110, 101, 119, 115])) (.cons (.cst (.str [70, 83, 78])) .nil))) (.cons (.tup (.cons (.cst (.str [103, 111, 110, 101, 115])) (.cons (.cst (.str [76, 83, 71])) .nil))) .nil)))))))
  (.cons (.ret (.bin .add (.var 0) (.lst (.cons (.tup (.cons (.cst (.str [110, 101, 119, 115, 32, 108, 97, 115, 116])) (.cons (.cst (.str [70, 76, 83, 78])) .nil))) (.cons (.tup (.cons (.cst (.str [102, 105, 114, 115, 116, 32, 103, 111, 110, 101, 115])) (.cons (.cst (.str [70, 76, 83, 71])) .nil))) (.cons (.tup (.cons (.cst (.str [110, 101, 119, 115, 32, 103, 111, 110, 101, 115])) (.cons (.cst (.str [70, 76, 83, 78, 71])) .nil))) (.cons (.tup (.cons (.cst (.str [97, 108, 108])) (.cons (.cst (.str [70, 76, 83, 78, 71, 65])) .nil))) .nil)))))))
  .nil)))
def F_l_signs (X : Ix) : MFn := ⟨0, 1, B_l_signs X⟩
/-! is_of (k43 k68) -/
def B_is_of_L3 (X : Ix) : MSs := (.cons (.par [7, 8] (.cons (.call X.facts_of (.cons (.var 1) (.cons (.bin .add (.var 5) (.var 6)) .nil)) .nil [0, 1]) (.cons (.call X.map_of (.cons (.var 0) (.cons (.bin .add (.var 5) (.var 6)) .nil)) .nil [0, 1]) .nil)))
  (.cons (.ite (.bop true (.cons (.cmp .inn (.var 7) (.var 2)) (.cons (.cmp .ne (.idx (.var 2) (.var 7)) (.var 8)) .nil))) (.cons (.ret (.cst (.bl false)))
  .nil) .nil)
  (.cons (.ite (.cmp .nin (.var 7) (.var 2)) (.cons (.seti (.var 2) (.var 7) (.var 8))
  (.cons (.expr (.mt .append (.var 4) (.cons (.bin .add (.var 5) (.var 6)) .nil)))
  .nil)) .nil)
  .nil)))
def B_is_of_L2 (X : Ix) : MSs := (.cons (.forr (.name 6) (.seq (.call X.known_letters (.cons (.var 0) .nil) .nil [0])) (B_is_of_L3 X))
  .nil)
def B_is_of_L1 (X : Ix) : MSs := (.cons (.asg (.name 4) (.new .nil))
  (.cons (.forr (.name 5) (.seq (.var 3)) (B_is_of_L2 X))
  (.cons (.asg (.name 3) (.frz (.var 4)))
  .nil)))
def B_is_of (X : Ix) : MSs := (.cons (.par [2, 3] (.cons .dnew (.cons (.lst (.cons (.cst (.str [])) .nil)) .nil)))
  (.cons (.whil 100000 (.cmp .gt (.bi .len (.cons (.var 3) .nil)) (.cst (.int 0))) (B_is_of_L1 X))
  (.cons (.ret (.cst (.bl true)))
  .nil)))
def F_is_of (X : Ix) : MFn := ⟨2, 9, B_is_of X⟩
/-! least_kind (k43 k68) -/
def B_least_kind (X : Ix) : MSs := (.cons (.asg (.name 1) (.call X.kinds_of (.cons (.var 0) .nil) .nil [0]))
  (.cons (.asg (.name 2) (.comp (.name 3) [3] (.seq (.var 1)) (.some (.bi .all (.cons (.comp (.name 4) [4] (.seq (.var 1)) .none (.call X.lies_within (.cons (.var 3) (.cons (.var 4) .nil)) .nil [0, 1])) .nil))) (.var 3)))
  (.cons (.ret (.ite (.cmp .gt (.bi .len (.cons (.var 2) .nil)) (.cst (.int 0))) (.idx (.var 2) (.cst (.int 0))) (.cst .non)))
  .nil)))
def F_least_kind (X : Ix) : MFn := ⟨1, 5, B_least_kind X⟩
/-! letters_told (k43 k44 k45 k46 k47 k48 k68 k69) -/
def B_letters_told (X : Ix) : MSs := (.cons (.ret (.ite (.cmp .ne (.var 0) (.tup .nil)) (.bin .add (.call X.letters_told (.cons (.idx (.var 0) (.cst (.int 0))) .nil) .nil [0]) (.idx (.var 0) (.cst (.int 1)))) (.cst (.str []))))
  .nil)
def F_letters_told (X : Ix) : MFn := ⟨1, 1, B_letters_told X⟩
/-! _law_rows (k43 k46 k47) -/
def B_l_rows_L2 (X : Ix) : MSs := (.cons (.asg (.name 4) (.bin .add (.var 4) (.comp (.name 6) [6] (.seq (.var 0)) .none (.bin .add (.var 5) (.var 6)))))
  .nil)
def B_l_rows_L1 (X : Ix) : MSs := (.cons (.asg (.name 4) (.lst .nil))
  (.cons (.forr (.name 5) (.seq (.var 2)) (B_l_rows_L2 X))
  (.cons (.asg (.name 2) (.var 4))
  .nil)))
def B_l_rows (X : Ix) : MSs := (.cons (.asg (.name 2) (.lst (.cons (.cst (.str [])) .nil)))
  (.cons (.forr (.name 3) (.range1 (.var 1)) (B_l_rows_L1 X))
  (.cons (.ret (.var 2))
  .nil)))
def F_l_rows (X : Ix) : MFn := ⟨2, 7, B_l_rows X⟩
/-! spot_of (k46 k47 k69) -/
def B_spot_of (X : Ix) : MSs := (.cons (.asg (.name 1) (.call X.letters_in (.cons (.var 0) .nil) .nil [0]))
  (.cons (.ret (.tup (.cons (.call X.regular_house (.cons (.var 1) .nil) .nil [0]) (.cons (.call X.number_among (.cons (.var 0) (.cons (.var 1) .nil)) .nil [0, 1]) .nil))))
  .nil))
def F_spot_of (X : Ix) : MFn := ⟨1, 2, B_spot_of X⟩
/-! shortest (k46 k69) -/
def B_shortest (X : Ix) : MSs := (.cons (.asg (.tup [1, 2]) (.call X.spot_of (.cons (.var 0) .nil) .nil [0]))
  (.cons (.ret (.call X.way_to (.cons (.var 1) (.cons (.cst (.int 0)) (.cons (.var 2) .nil))) .nil [0, 1, 2]))
  .nil))
def F_shortest (X : Ix) : MFn := ⟨1, 3, B_shortest X⟩
/-! how_short (k46 k69) -/
def B_how_short (X : Ix) : MSs := (.cons (.ret (.bi .len (.cons (.call X.shortest (.cons (.var 0) .nil) .nil [0]) .nil)))
  .nil)
def F_how_short (X : Ix) : MFn := ⟨1, 1, B_how_short X⟩
/-! ways_to (k46 k47 k69) -/
def B_ways_to_L1 (X : Ix) : MSs := (.cons (.asg (.name 5) (.idx (.var 3) (.neg (.cst (.int 1)))))
  (.cons (.expr (.mt .append (.var 3) (.cons (.comp (.name 6) [6] (.range1 (.idx (.var 0) (.cst (.int 0)))) .none (.bi .sum (.cons (.comp (.tup [7, 8]) [7, 8] (.seq (.idx (.var 0) (.cst (.int 1)))) .none (.idx (.var 5) (.idx (.var 8) (.var 6)))) .nil))) .nil)))
  .nil))
def B_ways_to (X : Ix) : MSs := (.cons (.asg (.name 3) (.new (.cons (.comp (.name 6) [6] (.range1 (.idx (.var 0) (.cst (.int 0)))) .none (.bi .int (.cons (.cmp .eq (.var 6) (.var 1)) .nil))) .nil)))
  (.cons (.forr (.name 4) (.range1 (.var 2)) (B_ways_to_L1 X))
  (.cons (.ret (.frz (.var 3)))
  .nil)))
def F_ways_to (X : Ix) : MFn := ⟨3, 9, B_ways_to X⟩
/-! how_many_long (k46 k47 k69) -/
def B_how_many_long (X : Ix) : MSs := (.cons (.asg (.tup [2, 3]) (.call X.spot_of (.cons (.var 0) .nil) .nil [0]))
  (.cons (.ret (.idx (.idx (.call X.ways_to (.cons (.var 2) (.cons (.var 3) (.cons (.var 1) .nil))) .nil [0, 1, 2]) (.var 1)) (.cst (.int 0))))
  .nil))
def F_how_many_long (X : Ix) : MFn := ⟨2, 4, B_how_many_long X⟩
/-! number_long (k47 k69) -/
def B_number_long_L2 (X : Ix) : MSs := (.cons (.ite (.cmp .lt (.var 9) (.var 8)) (.cons (.aug 6 .add (.idx (.idx (.var 4) (.bin .sub (.bin .sub (.bi .len (.cons (.var 0) .nil)) (.var 7)) (.cst (.int 1)))) (.idx (.idx (.var 3) (.var 9)) (.var 5))))
  .nil) .nil)
  .nil)
def B_number_long_L1 (X : Ix) : MSs := (.cons (.forr (.name 9) (.seq (.bi .sorted (.cons (.var 3) .nil))) (B_number_long_L2 X))
  (.cons (.asg (.name 5) (.idx (.idx (.var 3) (.var 8)) (.var 5)))
  .nil))
def B_number_long (X : Ix) : MSs := (.cons (.asg (.tup [1, 2]) (.call X.spot_of (.cons (.call X.form_of (.cons (.var 0) .nil) .nil [0]) .nil) .nil [0]))
  (.cons (.par [3, 4, 5, 6] (.cons (.call X.maps_of (.cons (.var 1) .nil) .nil [0]) (.cons (.call X.ways_to (.cons (.var 1) (.cons (.var 2) (.cons (.bi .len (.cons (.var 0) .nil)) .nil))) .nil [0, 1, 2]) (.cons (.cst (.int 0)) (.cons (.cst (.int 0)) .nil)))))
  (.cons (.forr (.tup [7, 8]) (.enum (.var 0)) (B_number_long_L1 X))
  (.cons (.ret (.var 6))
  .nil))))
def F_number_long (X : Ix) : MFn := ⟨1, 10, B_number_long X⟩
/-! longest_shortest (k48 k69) -/
def B_longest_shortest (X : Ix) : MSs := (.cons (.ret (.bi .max (.cons (.call X.lengths_for (.cons (.var 0) .nil) .nil [0]) .nil)))
  .nil)
def F_longest_shortest (X : Ix) : MFn := ⟨1, 1, B_longest_shortest X⟩
/-! is_name (k54 k55 k72) -/
def B_is_name (X : Ix) : MSs := (.cons (.ret (.bop true (.cons (.bi1 (.isi .str) (.var 0)) (.cons (.chain .le .le (.cst (.int 1)) (.bi .len (.cons (.var 0) .nil)) (.cst (.int 8))) (.cons (.bi .all (.cons (.comp (.name 1) [1] (.seq (.var 0)) .none (.cmp .inn (.var 1) (.glb X.gNAMES))) .nil)) .nil)))))
  .nil)
def F_is_name (X : Ix) : MFn := ⟨1, 2, B_is_name X⟩
/-! plan_text (k54 k56 k71 k72) -/
def B_plan_text (X : Ix) : MSs := (.cons (.ret (.ite (.cmp .ne (.var 0) (.cst (.str []))) (.var 0) (.glb X.gDASH)))
  .nil)
def F_plan_text (X : Ix) : MFn := ⟨1, 1, B_plan_text X⟩
/-! read_plan (k54 k55 k56 k71 k72) -/
def B_read_plan (X : Ix) : MSs := (.cons (.ite (.cmp .eq (.var 0) (.glb X.gDASH)) (.cons (.ret (.cst (.str [])))
  .nil) .nil)
  (.cons (.ite (.bop false (.cons (.cmp .eq (.var 0) (.cst (.str []))) (.cons (.not (.call X.is_plan (.cons (.var 0) .nil) .nil [0])) .nil))) (.cons .never
  .nil) .nil)
  (.cons (.ret (.var 0))
  .nil)))
def F_read_plan (X : Ix) : MFn := ⟨1, 1, B_read_plan X⟩
/-! form_text (k54 k55 k56 k71 k72) -/
def B_form_text (X : Ix) : MSs := (.cons (.ite (.cmp .eq (.bi .len (.cons (.var 0) .nil)) (.cst (.int 0))) (.cons (.ret (.glb X.gDOT))
  .nil) .nil)
  (.cons (.ret (.bin .add (.bin .add (.bin .add (.bin .add (.bin .add (.cst (.str [40])) (.call X.form_text (.cons (.idx (.var 0) (.cst (.int 0))) .nil) .nil [0])) (.idx (.var 0) (.cst (.int 1)))) (.idx (.var 0) (.cst (.int 2)))) (.call X.form_text (.cons (.idx (.var 0) (.cst (.int 3))) .nil) .nil [0])) (.cst (.str [41]))))
  .nil))
def F_form_text (X : Ix) : MFn := ⟨1, 1, B_form_text X⟩
/-! part_in (k54 k55 k71 k72) -/
def B_part_in (X : Ix) : MSs := (.cons (.ite (.cmp .eq (.sl (.var 0) (.some (.var 1)) (.some (.bin .add (.var 1) (.cst (.int 1))))) (.glb X.gDOT)) (.cons (.ret (.tup (.cons (.tup .nil) (.cons (.bin .add (.var 1) (.cst (.int 1))) .nil))))
  .nil) .nil)
  (.cons (.ite (.cmp .ne (.sl (.var 0) (.some (.var 1)) (.some (.bin .add (.var 1) (.cst (.int 1))))) (.cst (.str [40]))) (.cons .never
  .nil) .nil)
  (.cons (.asg (.tup [2, 3]) (.call X.part_in (.cons (.var 0) (.cons (.bin .add (.var 1) (.cst (.int 1))) .nil)) .nil [0, 1]))
  (.cons (.asg (.tup [4, 5]) (.call X.part_in (.cons (.var 0) (.cons (.bin .add (.var 3) (.cst (.int 2))) .nil)) .nil [0, 1]))
  (.cons (.ite (.cmp .ne (.sl (.var 0) (.some (.var 5)) (.some (.bin .add (.var 5) (.cst (.int 1))))) (.cst (.str [41]))) (.cons .never
  .nil) .nil)
  (.cons (.ret (.tup (.cons (.tup (.cons (.var 2) (.cons (.sl (.var 0) (.some (.var 3)) (.some (.bin .add (.var 3) (.cst (.int 1))))) (.cons (.sl (.var 0) (.some (.bin .add (.var 3) (.cst (.int 1)))) (.some (.bin .add (.var 3) (.cst (.int 2))))) (.cons (.var 4) .nil))))) (.cons (.bin .add (.var 5) (.cst (.int 1))) .nil))))
  .nil))))))
def F_part_in (X : Ix) : MFn := ⟨2, 6, B_part_in X⟩
/-! read_form (k54 k55 k71 k72) -/
def B_read_form (X : Ix) : MSs := (.cons (.asg (.tup [1, 2]) (.call X.part_in (.cons (.var 0) (.cons (.cst (.int 0)) .nil)) .nil [0, 1]))
  (.cons (.ite (.bop false (.cons (.cmp .ne (.var 2) (.bi .len (.cons (.var 0) .nil))) (.cons (.not (.call X.is_form (.cons (.var 1) .nil) .nil [0])) .nil))) (.cons .never
  .nil) .nil)
  (.cons (.ret (.var 1))
  .nil)))
def F_read_form (X : Ix) : MFn := ⟨1, 3, B_read_form X⟩
/-! sheet_text (k54 k72) -/
def B_sheet_text (X : Ix) : MSs := (.cons (.ret (.mt .join (.glb X.gFEED) (.cons (.comp (.tup [1, 2]) [1, 2] (.seq (.var 0)) .none (.bin .add (.bin .add (.var 1) (.cst (.str [32]))) (.call X.plan_text (.cons (.var 2) .nil) .nil [0]))) .nil)))
  .nil)
def F_sheet_text (X : Ix) : MFn := ⟨1, 3, B_sheet_text X⟩
/-! _law_say (k54 k56) -/
def B_l_say (X : Ix) : MSs := (.cons (.ite (.cmp .eq (.var 0) (.tup .nil)) (.cons (.ret (.cst (.str [46])))
  .nil) .nil)
  (.cons (.ret (.bin .add (.bin .add (.bin .add (.bin .add (.bin .add (.cst (.str [40])) (.call X.l_say (.cons (.idx (.var 0) (.cst (.int 0))) .nil) .nil [0])) (.idx (.var 0) (.cst (.int 1)))) (.idx (.var 0) (.cst (.int 2)))) (.call X.l_say (.cons (.idx (.var 0) (.cst (.int 3))) .nil) .nil [0])) (.cst (.str [41]))))
  .nil))
def F_l_say (X : Ix) : MFn := ⟨1, 1, B_l_say X⟩
/-! yes_or_no (k56 k71 k72) -/
def B_yes_or_no (X : Ix) : MSs := (.cons (.ret (.ite (.var 0) (.cst (.str [121, 101, 115])) (.cst (.str [110, 111]))))
  .nil)
def F_yes_or_no (X : Ix) : MFn := ⟨1, 1, B_yes_or_no X⟩
end Dn

set_option Elab.async false
set_option linter.all false
set_option maxRecDepth 100000
set_option maxHeartbeats 4000000
/-! running shared defs on symbols -/
namespace Dn
open PySem L2
section
variable {cl : Nat → List Dv → Hc → Res Dv} {gl : List Dv} {h : Hc}
theorem bodyF_ap (t : Tg) (body : MSs) (x : Dv) (s : Env1) : bodyF cl gl t body x s h = match tgD t x s with
  | some s2 => exs cl gl body s2 h
  | none => .bad := rfl
theorem compF_ap (tg : Tg) (vs : List Nat) (cond : MO) (elt : ME) (s : Env1) (x : Dv) : compF cl gl tg vs cond elt s x h = match tgD tg x (wipeD s vs) with
  | some s1 => (evC cl gl cond s1 h).bind fun b h3 => if b then (ev cl gl elt s1 h3).bind fun y h4 => .ok (some y) h4 else .ok none h3
  | none => .bad := rfl
theorem tg_tup1 (i : Nat) (x : Dv) (s : Env1) : tgD (.tup [i]) (.tup [x]) s = some (s.set i (some x)) := rfl
theorem tg_tup2 (i j : Nat) (x y : Dv) (s : Env1) : tgD (.tup [i, j]) (.tup [x, y]) s = some ((s.set i (some x)).set j (some y)) := rfl
theorem tg_tup3 (i j k : Nat) (x y z : Dv) (s : Env1) : tgD (.tup [i, j, k]) (.tup [x, y, z]) s = some (((s.set i (some x)).set j (some y)).set k (some z)) := rfl
theorem tg_tup4 (i j k l : Nat) (x y z w : Dv) (s : Env1) : tgD (.tup [i, j, k, l]) (.tup [x, y, z, w]) s = some ((((s.set i (some x)).set j (some y)).set k (some z)).set l (some w)) := rfl
theorem bi_isi {t : Ty} {x : Dv} {b : Bool} (e : isTy h t x = some b) : biD (.isi t) [x] h = .ok (.bl b) h := by simp only [biD, e]
theorem bi_isi2 {t u : Ty} {x : Dv} {b c : Bool} (e : isTy h t x = some b) (e2 : isTy h u x = some c) : biD (.isi2 t u) [x] h = .ok (.bl (b || c)) h := by simp only [biD, e, e2]
theorem isTy_str (t : Ty) (s : List Nat) : isTy h t (.str s) = some (decide (t = .str)) := by cases t <;> rfl
theorem isTy_int (t : Ty) (i : Int) : isTy h t (.int i) = some (decide (t = .int)) := by cases t <;> rfl
theorem isTy_bl (t : Ty) (i : Bool) : isTy h t (.bl i) = some (decide (t = .int ∨ t = .bool)) := by cases t <;> rfl
theorem isTy_non (t : Ty) : isTy h t .non = some false := by cases t <;> rfl
theorem isTy_tup (t : Ty) (xs : List Dv) : isTy h t (.tup xs) = some (decide (t = .tuple)) := by cases t <;> rfl
theorem isTy_lst (t : Ty) (xs : List Dv) : isTy h t (.lst xs) = some (decide (t = .list)) := by cases t <;> rfl
theorem forL_next {f : Dv → Env1 → Hc → Res Fl} {x : Dv} {xs : List Dv} {s s1 : Env1} {h h1 : Hc} (e : f x s h = .ok (.next s1) h1) : forL f (x :: xs) s h = forL f xs s1 h1 := by
  rw [forL, e]
  rfl
theorem forL_ret {f : Dv → Env1 → Hc → Res Fl} {x v : Dv} {xs : List Dv} {s : Env1} {h h1 : Hc} (e : f x s h = .ok (.ret v) h1) : forL f (x :: xs) s h = .ok (.ret v) h1 := by
  rw [forL, e]
  rfl
theorem forL_brk {f : Dv → Env1 → Hc → Res Fl} {x : Dv} {xs : List Dv} {s s1 : Env1} {h h1 : Hc} (e : f x s h = .ok (.brk s1) h1) : forL f (x :: xs) s h = .ok (.next s1) h1 := by
  rw [forL, e]
  rfl
theorem compL_some {f : Dv → Hc → Res (Option Dv)} {x y : Dv} {xs ys : List Dv} {h h1 h2 : Hc} (e : f x h = .ok (some y) h1) (e2 : compL f xs h1 = .ok ys h2) : compL f (x :: xs) h = .ok (y :: ys) h2 := by
  rw [compL, e, Res.calm_ok, Res.bind_ok, e2]
  rfl
theorem compL_nil {f : Dv → Hc → Res (Option Dv)} {h : Hc} : compL f [] h = .ok [] h := rfl
/-- a loop that is a fold -/
theorem for_fold {a b : Type} {tg : Tg} {body : MSs} (enc : a → Dv) (st : b → Env1) (f : b → a → b) (P : b → Prop) : ∀ (xs : List a) (b0 : b), P b0 →
    (∀ c x, P c → x ∈ xs → bodyF cl gl tg body (enc x) (st c) h = .ok (.next (st (f c x))) h ∧ P (f c x)) →
    forL (bodyF cl gl tg body) (xs.map enc) (st b0) h = .ok (.next (st (xs.foldl f b0))) h
  | [], b0, _, _ => rfl
  | x :: xs, b0, p0, step => by
    obtain ⟨e, p1⟩ := step b0 x p0 (.head _)
    rw [List.map_cons, forL, e, Res.bind_ok]
    exact for_fold enc st f P xs (f b0 x) p1 fun c y pc hy => step c y pc (.tail _ hy)
/-- a loop that may change the heap -/
theorem for_heap {a : Type} {tg : Tg} {body : MSs} (enc : a → Dv) (P : Nat → Env1 → Hc → Prop) : ∀ (xs : List a) (n : Nat) (s : Env1) (h : Hc), P n s h →
    (∀ i s h x, i < n + xs.length → P i s h → x ∈ xs → ∃ s' h', bodyF cl gl tg body (enc x) s h = .ok (.next s') h' ∧ P (i + 1) s' h') →
    ∃ s' h', forL (bodyF cl gl tg body) (xs.map enc) s h = .ok (.next s') h' ∧ P (n + xs.length) s' h'
  | [], n, s, h, p0, _ => ⟨s, h, rfl, p0⟩
  | x :: xs, n, s, h, p0, step => by
    obtain ⟨s1, h1, e, p1⟩ := step n s h x (by simp) p0 (.head _)
    obtain ⟨s2, h2, e2, p2⟩ := for_heap enc P xs (n + 1) s1 h1 p1 fun i s h y hi pc hy => step i s h y (by simp; omega) pc (.tail _ hy)
    refine ⟨s2, h2, ?_, ?_⟩
    · rw [List.map_cons, forL, e, Res.bind_ok]
      exact e2
    · have : n + (x :: xs).length = n + 1 + xs.length := by simp; omega
      rw [this]; exact p2
theorem comp_map {a : Type} {f : Dv → Hc → Res (Option Dv)} (enc : a → Dv) (g : a → Dv) : ∀ (xs : List a), (∀ x ∈ xs, f (enc x) h = .ok (some (g x)) h) → compL f (xs.map enc) h = .ok (xs.map g) h
  | [], _ => rfl
  | x :: xs, step => by
    rw [List.map_cons, compL, step x (.head _), Res.calm_ok, Res.bind_ok, comp_map enc g xs fun y hy => step y (.tail _ hy)]
    rfl
theorem comp_filter {a : Type} {f : Dv → Hc → Res (Option Dv)} (enc : a → Dv) (c : a → Bool) (g : a → Dv) : ∀ (xs : List a), (∀ x ∈ xs, f (enc x) h = .ok (if c x then some (g x) else none) h) → compL f (xs.map enc) h = .ok ((xs.filter c).map g) h
  | [], _ => rfl
  | x :: xs, step => by
    rw [List.map_cons, compL, step x (.head _), Res.calm_ok, Res.bind_ok, comp_filter enc c g xs fun y hy => step y (.tail _ hy)]
    cases z : c x with
    | true => simp only [if_true, Res.bind_ok]; rw [List.filter_cons_of_pos z]; rfl
    | false => simp only [Bool.false_eq_true, if_false, Res.bind_ok]; rw [List.filter_cons_of_neg (by simp [z])]
theorem comp_heap {a : Type} {f : Dv → Hc → Res (Option Dv)} (enc : a → Dv) (P : Nat → Hc → Prop) (R : Dv → Prop) : ∀ (xs : List a) (n : Nat) (h : Hc), P n h → (∀ i h x, i < n + xs.length → P i h → x ∈ xs → ∃ y h', f (enc x) h = .ok (some y) h' ∧ P (i + 1) h' ∧ R y) →
    ∃ ys h', compL f (xs.map enc) h = .ok ys h' ∧ P (n + xs.length) h' ∧ (∀ y ∈ ys, R y) ∧ ys.length = xs.length
  | [], n, h, p0, _ => ⟨[], h, rfl, p0, (fun _ z => by cases z), rfl⟩
  | x :: xs, n, h, p0, step => by
    obtain ⟨y, h1, e, p1, r1⟩ := step n h x (by simp) p0 (.head _)
    obtain ⟨ys, h2, e2, p2, r2, l2⟩ := comp_heap enc P R xs (n + 1) h1 p1 fun i h z hi pz hz => step i h z (by simp; omega) pz (.tail _ hz)
    refine ⟨y :: ys, h2, ?_, ?_, ?_, by simp [l2]⟩
    · rw [List.map_cons, compL, e, Res.calm_ok, Res.bind_ok, e2]
      rfl
    · have : n + (x :: xs).length = n + 1 + xs.length := by simp; omega
      rw [this]; exact p2
    · intro z hz
      rcases List.mem_cons.mp hz with rfl | hz
      · exact r1
      · exact r2 z hz
theorem castL (n : Nat) : ((no_index (@OfNat.ofNat Nat n _) : Nat) : Int) = @OfNat.ofNat Int n _ := rfl
theorem SZ_if {t : Type} {n : Nat} (z : n ≤ SZ) (a b : t) : (if SZok n = true then a else b) = a := if_pos (SZok_iff.mpr z)
end

/-! ### _law_same of equal things -/
mutual
def wf : Dv → Bool
  | .loc _ => false
  | .tup xs => Nat.ble xs.length SZ && wfs xs
  | .lst xs => Nat.ble xs.length SZ && wfs xs
  | _ => true
def wfs : List Dv → Bool
  | [] => true
  | x :: xs => wf x && wfs xs
end
mutual
def dp : Dv → Nat
  | .tup xs => dps xs + 1
  | .lst xs => dps xs + 1
  | _ => 0
def dps : List Dv → Nat
  | [] => 0
  | x :: xs => max (dp x) (dps xs)
end
theorem wfs_mem : ∀ {xs : List Dv}, wfs xs = true → ∀ x ∈ xs, wf x = true
  | x :: xs, h, y, hy => by
    simp only [wfs, Bool.and_eq_true] at h
    rcases List.mem_cons.mp hy with rfl | hy
    · exact h.1
    · exact wfs_mem h.2 y hy
theorem dps_mem : ∀ {xs : List Dv} {n : Nat}, dps xs ≤ n → ∀ x ∈ xs, dp x ≤ n
  | x :: xs, n, h, y, hy => by
    simp only [dps] at h
    rcases List.mem_cons.mp hy with rfl | hy
    · omega
    · exact dps_mem (xs := xs) (by omega) y hy
theorem zipL_self : ∀ xs : List Dv, zipL xs xs = xs.map fun x => .tup [x, x]
  | [] => rfl
  | x :: xs => by rw [zipL, zipL_self xs]; rfl
theorem blsOf_map_true {a : Type} (xs : List a) : blsOf (xs.map fun _ => Dv.bl true) = some (xs.map fun _ => true) := by
  induction xs with
  | nil => rfl
  | cons x xs ih => simp [blsOf, ih]
theorem all_true {a : Type} {h : Hc} (xs : List a) : biD .all [.lst (xs.map fun _ => Dv.bl true)] h = .ok (.bl true) h := by
  simp only [biD, lstOf, Option.bind_some, blsOf_map_true]
  congr 1
  simp
theorem eqd_int (i : Int) {h : Hc} : cmpD .eq (.int i) (.int i) h = .ok (.bl true) h := by rw [cmp_eqi]; simp
theorem eqd_str (i : List Nat) {h : Hc} : cmpD .eq (.str i) (.str i) h = .ok (.bl true) h := by rw [cmp_eqs]; simp
theorem eqd_bl (i : Bool) {h : Hc} : cmpD .eq (.bl i) (.bl i) h = .ok (.bl true) h := by rw [cmp_eqb]; simp
theorem eqd_non {h : Hc} : cmpD .eq .non .non h = .ok (.bl true) h := rfl
theorem ned_bl (i : Bool) {h : Hc} : cmpD .ne (.bl i) (.bl i) h = .ok (.bl false) h := by rw [cmp_neb]; simp
theorem same_ok {fs : List MFn} {gl : List Dv} {X : Ix} (hf : fs[X.l_same]? = some (F_l_same X)) : ∀ (n k : Nat) (d : Dv) (h : Hc), dp d ≤ n → wf d = true → callF fs gl (k + n + 1) X.l_same [d, d] h = .ok (.bl true) h := by
  intro n
  induction n with
  | zero =>
    intro k d h hd hw
    rw [callF_in hf rfl]
    have tl := @trim_len h.length (.bl true) h rfl
    cases d with
    | loc m => cases hw
    | tup xs => simp [dp] at hd
    | lst xs => simp [dp] at hd
    | _ => simp -implicitDefEqProofs only [F_l_same, B_l_same, startD, List.map_cons, List.map_nil, List.replicate, exs_cons, seqF, exs_nil, ex_asg, ex_par, ex_seti, ex_aug, ex_expr, ex_ret, ex_retn, ex_ite, ex_forr, ex_whil, ex_pass, ex_brk, ex_cont, ev_var, ev_cst, ev_glb, ev_bin, ev_cmp, ev_chain, ev_isn, ev_neg, ev_not, ev_bop, ev_ite, ev_tup, ev_lst, ev_new, ev_idx, ev_sl, ev_rev, ev_bi, ev_bi1, ev_mt, ev_call, ev_comp, ev_frz, evs_nil, evs_cons, evB_one, evB_cons, evO_none, evO_some, optF_int, evC_none, evC_some, evI_seq, evI_range1, evI_range2, evI_enum, evI_zip, rngF_int, rngF2_int, enuF_str, enuF_lst, permD, List.getElem?_cons_zero, List.getElem?_cons_succ, List.cons_append, List.nil_append, List.append_nil, List.set_cons_zero, List.set_cons_succ, Res.bind_ok, Res.calm_ok, tg_name, tg_tup1, tg_tup2, tg_tup3, tg_tup4, compF_ap, bodyF_ap, wipeD, List.length_cons, List.length_nil, List.zip_cons_cons, List.zip_nil_right, List.foldl_cons, List.foldl_nil, if_true, if_false, Bool.false_eq_true, Bool.true_eq_false, truth_bl, truth_str, truth_int, truth_lst, truth_tup, truth_non, Bool.not_true, Bool.not_false, beq_self_eq_true, Nat.zero_add, Nat.reduceAdd, Nat.reduceSub, SZ0, SZ1, SZ2, SZ3, SZ4, SZ5, SZ6, SZ7, SZ8, bin_add, bin_sub, cmp_lt, cmp_le, cmp_gt, cmp_ge, cmp_eqi, cmp_nei, cmp_eqs, cmp_nes, cmp_eqb, cmp_neb, cmp_inns, cmp_nins, bi_int, bi_intb, bi_abs, bi_lens, bi_lent, bi_lenl, seqD_str, seqD_tup, seqD_lst, rev_str, neg_int, endR, beq_tt, beq_ff, beq_tf, beq_ft, Bool.and_true, Bool.and_false, Bool.true_and, Bool.false_and, Bool.or_true, Bool.or_false, Bool.true_or, Bool.false_or, bi_isi (isTy_str _ _), bi_isi (isTy_int _ _), bi_isi (isTy_bl _ _), bi_isi (isTy_non _), bi_isi2 (isTy_str _ _) (isTy_str _ _), bi_isi2 (isTy_int _ _) (isTy_int _ _), bi_isi2 (isTy_bl _ _) (isTy_bl _ _), bi_isi2 (isTy_non _) (isTy_non _), reduceCtorEq, decide_false, decide_true, or_false, or_true, eqd_int, eqd_str, eqd_bl, eqd_non, ned_bl, tl]
  | succ n ih =>
    intro k d h hd hw
    rw [callF_in hf rfl]
    have tl := @trim_len h.length (.bl true) h rfl
    have list : ∀ xs : List Dv, Nat.ble xs.length SZ = true → (∀ x ∈ xs, wf x = true) → (∀ x ∈ xs, dp x ≤ n) →
        compL (compF (callF fs gl (k + (n + 1))) gl (.tup [2, 3]) [2, 3] .none (.call X.l_same (.cons (.var 2) (.cons (.var 3) .nil)) .nil [0, 1]) [some d, some d, none, none]) (xs.map fun x => .tup [x, x]) h = .ok (xs.map fun _ => .bl true) h := fun xs h1 h2 h3 => by
      refine comp_map (fun x => Dv.tup [x, x]) (fun _ => Dv.bl true) xs fun x hx => ?_
      have e := ih k x h (h3 x hx) (h2 x hx)
      have ek : k + (n + 1) = k + n + 1 := by omega
      simp -implicitDefEqProofs only [exs_cons, seqF, exs_nil, ex_asg, ex_par, ex_seti, ex_aug, ex_expr, ex_ret, ex_retn, ex_ite, ex_forr, ex_whil, ex_pass, ex_brk, ex_cont, ev_var, ev_cst, ev_glb, ev_bin, ev_cmp, ev_chain, ev_isn, ev_neg, ev_not, ev_bop, ev_ite, ev_tup, ev_lst, ev_new, ev_idx, ev_sl, ev_rev, ev_bi, ev_bi1, ev_mt, ev_call, ev_comp, ev_frz, evs_nil, evs_cons, evB_one, evB_cons, evO_none, evO_some, optF_int, evC_none, evC_some, evI_seq, evI_range1, evI_range2, evI_enum, evI_zip, rngF_int, rngF2_int, enuF_str, enuF_lst, permD, List.getElem?_cons_zero, List.getElem?_cons_succ, List.cons_append, List.nil_append, List.append_nil, List.set_cons_zero, List.set_cons_succ, Res.bind_ok, Res.calm_ok, tg_name, tg_tup1, tg_tup2, tg_tup3, tg_tup4, compF_ap, bodyF_ap, wipeD, List.length_cons, List.length_nil, List.zip_cons_cons, List.zip_nil_right, List.foldl_cons, List.foldl_nil, if_true, if_false, Bool.false_eq_true, Bool.true_eq_false, truth_bl, truth_str, truth_int, truth_lst, truth_tup, truth_non, Bool.not_true, Bool.not_false, beq_self_eq_true, Nat.zero_add, Nat.reduceAdd, Nat.reduceSub, SZ0, SZ1, SZ2, SZ3, SZ4, SZ5, SZ6, SZ7, SZ8, bin_add, bin_sub, cmp_lt, cmp_le, cmp_gt, cmp_ge, cmp_eqi, cmp_nei, cmp_eqs, cmp_nes, cmp_eqb, cmp_neb, cmp_inns, cmp_nins, bi_int, bi_intb, bi_abs, bi_lens, bi_lent, bi_lenl, seqD_str, seqD_tup, seqD_lst, rev_str, neg_int, endR, beq_tt, beq_ff, beq_tf, beq_ft, Bool.and_true, Bool.and_false, Bool.true_and, Bool.false_and, Bool.or_true, Bool.or_false, Bool.true_or, Bool.false_or, ek, e]
    cases d with
    | loc m => cases hw
    | tup xs =>
      simp only [wf, Bool.and_eq_true] at hw
      simp only [dp] at hd
      have e := list xs hw.1 (wfs_mem hw.2) (dps_mem (by omega))
      have zp : zipD (.tup xs) (.tup xs) h = .ok (xs.map fun x => .tup [x, x]) h := by rw [← zipL_self]; rfl
      have sz : SZok (xs.map fun _ => Dv.bl true).length = true := by rw [List.length_map]; exact hw.1
      simp -implicitDefEqProofs only [F_l_same, B_l_same, startD, List.map_cons, List.map_nil, List.replicate, exs_cons, seqF, exs_nil, ex_asg, ex_par, ex_seti, ex_aug, ex_expr, ex_ret, ex_retn, ex_ite, ex_forr, ex_whil, ex_pass, ex_brk, ex_cont, ev_var, ev_cst, ev_glb, ev_bin, ev_cmp, ev_chain, ev_isn, ev_neg, ev_not, ev_bop, ev_ite, ev_tup, ev_lst, ev_new, ev_idx, ev_sl, ev_rev, ev_bi, ev_bi1, ev_mt, ev_call, ev_comp, ev_frz, evs_nil, evs_cons, evB_one, evB_cons, evO_none, evO_some, optF_int, evC_none, evC_some, evI_seq, evI_range1, evI_range2, evI_enum, evI_zip, rngF_int, rngF2_int, enuF_str, enuF_lst, permD, List.getElem?_cons_zero, List.getElem?_cons_succ, List.cons_append, List.nil_append, List.append_nil, List.set_cons_zero, List.set_cons_succ, Res.bind_ok, Res.calm_ok, tg_name, tg_tup1, tg_tup2, tg_tup3, tg_tup4, compF_ap, bodyF_ap, wipeD, List.length_cons, List.length_nil, List.zip_cons_cons, List.zip_nil_right, List.foldl_cons, List.foldl_nil, if_true, if_false, Bool.false_eq_true, Bool.true_eq_false, truth_bl, truth_str, truth_int, truth_lst, truth_tup, truth_non, Bool.not_true, Bool.not_false, beq_self_eq_true, Nat.zero_add, Nat.reduceAdd, Nat.reduceSub, SZ0, SZ1, SZ2, SZ3, SZ4, SZ5, SZ6, SZ7, SZ8, bin_add, bin_sub, cmp_lt, cmp_le, cmp_gt, cmp_ge, cmp_eqi, cmp_nei, cmp_eqs, cmp_nes, cmp_eqb, cmp_neb, cmp_inns, cmp_nins, bi_int, bi_intb, bi_abs, bi_lens, bi_lent, bi_lenl, seqD_str, seqD_tup, seqD_lst, rev_str, neg_int, endR, beq_tt, beq_ff, beq_tf, beq_ft, Bool.and_true, Bool.and_false, Bool.true_and, Bool.false_and, Bool.or_true, Bool.or_false, Bool.true_or, Bool.false_or, bi_isi (isTy_tup _ _), bi_isi2 (isTy_tup _ _) (isTy_tup _ _), reduceCtorEq, decide_false, decide_true, or_false, or_true, eqd_int, ned_bl, zp, e, sz, all_true, tl]
    | lst xs =>
      simp only [wf, Bool.and_eq_true] at hw
      simp only [dp] at hd
      have e := list xs hw.1 (wfs_mem hw.2) (dps_mem (by omega))
      have zp : zipD (.lst xs) (.lst xs) h = .ok (xs.map fun x => .tup [x, x]) h := by rw [← zipL_self]; rfl
      have sz : SZok (xs.map fun _ => Dv.bl true).length = true := by rw [List.length_map]; exact hw.1
      simp -implicitDefEqProofs only [F_l_same, B_l_same, startD, List.map_cons, List.map_nil, List.replicate, exs_cons, seqF, exs_nil, ex_asg, ex_par, ex_seti, ex_aug, ex_expr, ex_ret, ex_retn, ex_ite, ex_forr, ex_whil, ex_pass, ex_brk, ex_cont, ev_var, ev_cst, ev_glb, ev_bin, ev_cmp, ev_chain, ev_isn, ev_neg, ev_not, ev_bop, ev_ite, ev_tup, ev_lst, ev_new, ev_idx, ev_sl, ev_rev, ev_bi, ev_bi1, ev_mt, ev_call, ev_comp, ev_frz, evs_nil, evs_cons, evB_one, evB_cons, evO_none, evO_some, optF_int, evC_none, evC_some, evI_seq, evI_range1, evI_range2, evI_enum, evI_zip, rngF_int, rngF2_int, enuF_str, enuF_lst, permD, List.getElem?_cons_zero, List.getElem?_cons_succ, List.cons_append, List.nil_append, List.append_nil, List.set_cons_zero, List.set_cons_succ, Res.bind_ok, Res.calm_ok, tg_name, tg_tup1, tg_tup2, tg_tup3, tg_tup4, compF_ap, bodyF_ap, wipeD, List.length_cons, List.length_nil, List.zip_cons_cons, List.zip_nil_right, List.foldl_cons, List.foldl_nil, if_true, if_false, Bool.false_eq_true, Bool.true_eq_false, truth_bl, truth_str, truth_int, truth_lst, truth_tup, truth_non, Bool.not_true, Bool.not_false, beq_self_eq_true, Nat.zero_add, Nat.reduceAdd, Nat.reduceSub, SZ0, SZ1, SZ2, SZ3, SZ4, SZ5, SZ6, SZ7, SZ8, bin_add, bin_sub, cmp_lt, cmp_le, cmp_gt, cmp_ge, cmp_eqi, cmp_nei, cmp_eqs, cmp_nes, cmp_eqb, cmp_neb, cmp_inns, cmp_nins, bi_int, bi_intb, bi_abs, bi_lens, bi_lent, bi_lenl, seqD_str, seqD_tup, seqD_lst, rev_str, neg_int, endR, beq_tt, beq_ff, beq_tf, beq_ft, Bool.and_true, Bool.and_false, Bool.true_and, Bool.false_and, Bool.or_true, Bool.or_false, Bool.true_or, Bool.false_or, bi_isi (isTy_lst _ _), bi_isi2 (isTy_lst _ _) (isTy_lst _ _), reduceCtorEq, decide_false, decide_true, or_false, or_true, eqd_int, ned_bl, zp, e, sz, all_true, tl]
    | _ => simp -implicitDefEqProofs only [F_l_same, B_l_same, startD, List.map_cons, List.map_nil, List.replicate, exs_cons, seqF, exs_nil, ex_asg, ex_par, ex_seti, ex_aug, ex_expr, ex_ret, ex_retn, ex_ite, ex_forr, ex_whil, ex_pass, ex_brk, ex_cont, ev_var, ev_cst, ev_glb, ev_bin, ev_cmp, ev_chain, ev_isn, ev_neg, ev_not, ev_bop, ev_ite, ev_tup, ev_lst, ev_new, ev_idx, ev_sl, ev_rev, ev_bi, ev_bi1, ev_mt, ev_call, ev_comp, ev_frz, evs_nil, evs_cons, evB_one, evB_cons, evO_none, evO_some, optF_int, evC_none, evC_some, evI_seq, evI_range1, evI_range2, evI_enum, evI_zip, rngF_int, rngF2_int, enuF_str, enuF_lst, permD, List.getElem?_cons_zero, List.getElem?_cons_succ, List.cons_append, List.nil_append, List.append_nil, List.set_cons_zero, List.set_cons_succ, Res.bind_ok, Res.calm_ok, tg_name, tg_tup1, tg_tup2, tg_tup3, tg_tup4, compF_ap, bodyF_ap, wipeD, List.length_cons, List.length_nil, List.zip_cons_cons, List.zip_nil_right, List.foldl_cons, List.foldl_nil, if_true, if_false, Bool.false_eq_true, Bool.true_eq_false, truth_bl, truth_str, truth_int, truth_lst, truth_tup, truth_non, Bool.not_true, Bool.not_false, beq_self_eq_true, Nat.zero_add, Nat.reduceAdd, Nat.reduceSub, SZ0, SZ1, SZ2, SZ3, SZ4, SZ5, SZ6, SZ7, SZ8, bin_add, bin_sub, cmp_lt, cmp_le, cmp_gt, cmp_ge, cmp_eqi, cmp_nei, cmp_eqs, cmp_nes, cmp_eqb, cmp_neb, cmp_inns, cmp_nins, bi_int, bi_intb, bi_abs, bi_lens, bi_lent, bi_lenl, seqD_str, seqD_tup, seqD_lst, rev_str, neg_int, endR, beq_tt, beq_ff, beq_tf, beq_ft, Bool.and_true, Bool.and_false, Bool.true_and, Bool.false_and, Bool.or_true, Bool.or_false, Bool.true_or, Bool.false_or, bi_isi (isTy_str _ _), bi_isi (isTy_int _ _), bi_isi (isTy_bl _ _), bi_isi (isTy_non _), bi_isi2 (isTy_str _ _) (isTy_str _ _), bi_isi2 (isTy_int _ _) (isTy_int _ _), bi_isi2 (isTy_bl _ _) (isTy_bl _ _), bi_isi2 (isTy_non _) (isTy_non _), reduceCtorEq, decide_false, decide_true, or_false, or_true, eqd_int, eqd_str, eqd_bl, eqd_non, ned_bl, tl]
end Dn

set_option Elab.async false
set_option linter.all false
set_option maxRecDepth 100000
set_option maxHeartbeats 4000000
/-! drawn plans -/
namespace Dn
open PySem L2
abbrev ABC : List Nat := [97, 98, 99, 100, 101, 102, 103, 104]
abbrev chD (c : Nat) : Dv := .str [c]
/-- letters alone -/
def Pl (p : List Nat) : Prop := ∀ c ∈ p, c ∈ ABC
theorem rangeL_map (lo : Int) : ∀ n : Nat, rangeL lo n = (List.range n).map fun i => .int (lo + (i : Nat))
  | 0 => rfl
  | n + 1 => by rw [rangeL_snoc, rangeL_map lo n, List.range_succ, List.map_append]; rfl
theorem rangeD_map {h : Hc} {n : Nat} (hn : n < 2 ^ 60) : rangeD 0 (n : Int) h = .ok ((List.range n).map fun i => .int ((0 : Int) + (i : Nat))) h := by
  rw [rangeD0 hn, rangeL_map]
theorem chs_of : ∀ {ys : List Dv} {S : List Nat}, (∀ y ∈ ys, ∃ c ∈ S, y = chD c) → ∃ cs : List Nat, ys = cs.map chD ∧ ∀ c ∈ cs, c ∈ S
  | [], S, _ => ⟨[], rfl, fun _ h => by cases h⟩
  | y :: ys, S, h => by
    obtain ⟨c, hc, rfl⟩ := h y (.head _)
    obtain ⟨cs, rfl, h2⟩ := chs_of fun z hz => h z (.tail _ hz)
    refine ⟨c :: cs, rfl, fun d hd => ?_⟩
    rcases List.mem_cons.mp hd with rfl | hd
    · exact hc
    · exact h2 d hd
theorem list_str {h : Hc} (s : List Nat) : biD .list [.str s] h = .ok (.lst (s.map chD)) h := rfl
theorem sl_take {h : Hc} {t : Type} (f : t → Dv) (xs : List t) (m : Nat) : slD (.lst (xs.map f)) none (some (m : Int)) h = .ok (.lst ((xs.take m).map f)) h := by
  simp only [slD, lstOf, cut_take, List.map_take]
theorem mtOk_join {s : List Nat} {h : Hc} : mtOk .join (.str s) h = true := rfl
theorem mtOk_find {s : List Nat} {h : Hc} : mtOk .find (.str s) h = true := rfl
theorem mtOk_rfind {s : List Nat} {h : Hc} : mtOk .rfind (.str s) h = true := rfl
theorem startD_eq (nn : Nat) (vs : List Dv) : startD nn vs = vs.map some ++ List.replicate (nn - vs.length) none := rfl
theorem plan_bx {fs : List MFn} {gl : List Dv} {X : Ix} (hf : fs[X.l_plan]? = some (F_l_plan X)) (hm : fs[X.l_mixed]? = some (F_l_mixed X)) (ht : fs[X.l_take]? = some (F_l_take X)) (ho : fs[X.l_of]? = some (F_l_of X))
    {k N n m L : Nat} {h : Hc} (bx : BX N h n) (hN : N < 2 ^ 50) (hm1 : 1 ≤ m) (hL : L < 2 ^ 20) :
    ∃ (p : List Nat) (h' : Hc), callF fs gl (k + 3) X.l_plan [.loc n, .int m, .int L] h = .ok (.str p) h' ∧ Pl p ∧ p.length ≤ L ∧ BX (N + 2 ^ 21) h' n ∧ (h'.length = h.length ∧ Fr n h h') := by
  have hm' : fs[X.l_mixed]? = some (fMix X.l_take) := hm
  have ht' : fs[X.l_take]? = some fTake := ht
  have ho' : fs[X.l_of]? = some (fOf X.l_take) := ho
  obtain ⟨ys, h1, e1, p1, b1, l1⟩ := mix_bx (gl := gl) (k := k) hm' ht' chD (fun _ => rfl) (xs := ABC) bx (by decide) (by simp; omega)
  obtain ⟨v, h2, e2, v2, b2, l2⟩ := take_bx (gl := gl) (k := k + 1) ht' b1 (B := (L : Int) + 1) (by simp; omega) (by omega) (by omega) []
  simp only [List.append_nil] at e2
  have yl : ys.length = 8 := p1.length_eq
  have tk : (ys.take m).length ≤ 8 := by rw [List.length_take]; omega
  have hne : ys.take m ≠ [] := fun z => by
    have z2 := congrArg List.length z
    rw [List.length_take, yl] at z2
    simp only [List.length_nil] at z2
    omega
  have hsub : ∀ c ∈ ys.take m, c ∈ ABC := fun c hc => p1.mem_iff.mp (List.mem_of_mem_take hc)
  obtain ⟨zs, h3, e3, b3, r3, l3⟩ := comp_heap (f := compF (callF fs gl (k + 2)) gl (.name 4) [4] .none (.call X.l_of (.cons (.var 0) (.cons (.var 3) .nil)) .nil [0, 1]) [some (.loc n), some (.int m), some (.int L), some (.lst ((ys.take m).map chD)), none])
    (fun i : Nat => .int ((0 : Int) + (i : Nat))) (fun j g => BX (N + 20 + j) g n ∧ g.length = h.length ∧ Fr n h g) (fun y => ∃ c ∈ ys.take m, y = chD c) (List.range v) 0 h2 ⟨b2.le (by simp), by omega, l1.2.trans l2.2⟩ (by
      intro j g i hj ⟨bg, lg⟩ hi
      rw [List.length_range] at hj
      obtain ⟨w, g', eg, hw, bg', lg'⟩ := of_bx (gl := gl) (k := k) ho' ht' (xs := (ys.take m).map chD) bg (by omega) (by simpa using hne) (by rw [List.length_map]; omega)
      obtain ⟨c, hc, rfl⟩ := List.mem_map.mp hw
      refine ⟨chD c, g', ?_, ⟨bg'.le (by omega), by omega, lg.2.trans lg'.2⟩, c, hc, rfl⟩
      simp -implicitDefEqProofs only [exs_cons, seqF, exs_nil, ex_asg, ex_par, ex_seti, ex_aug, ex_expr, ex_ret, ex_retn, ex_ite, ex_forr, ex_whil, ex_pass, ex_brk, ex_cont, ev_var, ev_cst, ev_glb, ev_bin, ev_cmp, ev_chain, ev_isn, ev_neg, ev_not, ev_bop, ev_ite, ev_tup, ev_lst, ev_new, ev_idx, ev_sl, ev_rev, ev_bi, ev_bi1, ev_mt, ev_call, ev_comp, ev_frz, evs_nil, evs_cons, evB_one, evB_cons, evO_none, evO_some, optF_int, evC_none, evC_some, evI_seq, evI_range1, evI_range2, evI_enum, evI_zip, rngF_int, rngF2_int, enuF_str, enuF_lst, permD, List.getElem?_cons_zero, List.getElem?_cons_succ, List.cons_append, List.nil_append, List.append_nil, List.set_cons_zero, List.set_cons_succ, Res.bind_ok, Res.calm_ok, tg_name, tg_tup1, tg_tup2, tg_tup3, tg_tup4, compF_ap, bodyF_ap, wipeD, List.length_cons, List.length_nil, List.zip_cons_cons, List.zip_nil_right, List.foldl_cons, List.foldl_nil, if_true, if_false, Bool.false_eq_true, Bool.true_eq_false, truth_bl, truth_str, truth_int, truth_lst, truth_tup, truth_non, Bool.not_true, Bool.not_false, beq_self_eq_true, Nat.zero_add, Nat.reduceAdd, Nat.reduceSub, SZ0, SZ1, SZ2, SZ3, SZ4, SZ5, SZ6, SZ7, SZ8, bin_add, bin_sub, cmp_lt, cmp_le, cmp_gt, cmp_ge, cmp_eqi, cmp_nei, cmp_eqs, cmp_nes, cmp_eqb, cmp_neb, cmp_inns, cmp_nins, bi_int, bi_intb, bi_abs, bi_lens, bi_lent, bi_lenl, seqD_str, seqD_tup, seqD_lst, rev_str, neg_int, endR, beq_tt, beq_ff, beq_tf, beq_ft, Bool.and_true, Bool.and_false, Bool.true_and, Bool.false_and, Bool.or_true, Bool.or_false, Bool.true_or, Bool.false_or, eg])
  rw [List.length_range] at l3 b3
  obtain ⟨cs, rfl, hcs⟩ := chs_of r3
  rw [List.length_map] at l3
  refine ⟨cs, h3, ?_, fun c hc => hsub c (hcs c hc), by omega, b3.1.le (by omega), b3.2⟩
  rw [callF_in hf rfl]
  have rg := rangeD_map (h := h2) (n := v) (by omega)
  have jn := join1_ok (h := h3) (cs := cs) (by unfold SZ; omega)
  have tl := @trim_len h.length (.str cs) h3 b3.2.1
  simp only [F_l_plan, B_l_plan, startD, List.map_cons, List.map_nil, List.replicate, List.length_cons, List.length_nil, Nat.reduceAdd, Nat.reduceSub, List.cons_append, List.nil_append]
  simp -implicitDefEqProofs only [exs_cons, seqF, exs_nil, ex_asg, ex_par, ex_seti, ex_aug, ex_expr, ex_ret, ex_retn, ex_ite, ex_forr, ex_whil, ex_pass, ex_brk, ex_cont, ev_var, ev_cst, ev_glb, ev_bin, ev_cmp, ev_chain, ev_isn, ev_neg, ev_not, ev_bop, ev_ite, ev_tup, ev_lst, ev_new, ev_idx, ev_sl, ev_rev, ev_bi, ev_bi1, ev_mt, ev_call, ev_comp, ev_frz, evs_nil, evs_cons, evB_one, evB_cons, evO_none, evO_some, optF_int, evC_none, evC_some, evI_seq, evI_range1, evI_range2, evI_enum, evI_zip, rngF_int, rngF2_int, enuF_str, enuF_lst, permD, List.getElem?_cons_zero, List.getElem?_cons_succ, List.cons_append, List.nil_append, List.append_nil, List.set_cons_zero, List.set_cons_succ, Res.bind_ok, Res.calm_ok, tg_name, tg_tup1, tg_tup2, tg_tup3, tg_tup4, compF_ap, bodyF_ap, wipeD, List.length_cons, List.length_nil, List.zip_cons_cons, List.zip_nil_right, List.foldl_cons, List.foldl_nil, if_true, if_false, Bool.false_eq_true, Bool.true_eq_false, truth_bl, truth_str, truth_int, truth_lst, truth_tup, truth_non, Bool.not_true, Bool.not_false, beq_self_eq_true, Nat.zero_add, Nat.reduceAdd, Nat.reduceSub, SZ0, SZ1, SZ2, SZ3, SZ4, SZ5, SZ6, SZ7, SZ8, bin_add, bin_sub, cmp_lt, cmp_le, cmp_gt, cmp_ge, cmp_eqi, cmp_nei, cmp_eqs, cmp_nes, cmp_eqb, cmp_neb, cmp_inns, cmp_nins, bi_int, bi_intb, bi_abs, bi_lens, bi_lent, bi_lenl, seqD_str, seqD_tup, seqD_lst, rev_str, neg_int, endR, beq_tt, beq_ff, beq_tf, beq_ft, Bool.and_true, Bool.and_false, Bool.true_and, Bool.false_and, Bool.or_true, Bool.or_false, Bool.true_or, Bool.false_or, list_str, e1, sl_take, e2, rg, e3, List.length_map, SZ_if (show cs.length ≤ SZ by unfold SZ; omega), mtOk_join, jn, tl]
theorem tg_lst2 (i j : Nat) (x y : Dv) (s : Env1) : tgD (.tup [i, j]) (.lst [x, y]) s = some ((s.set i (some x)).set j (some y)) := rfl
theorem cut_mid {t : Type} (xs : List t) (i j : Nat) : cutD xs (some (i : Int)) (some (j : Int)) = (xs.drop i).take (j - i) := by
  simp only [cutD, HT.sIx_nat]
  by_cases hi : i ≤ xs.length
  · rw [Nat.min_eq_left hi]
    by_cases hj : j ≤ xs.length
    · rw [Nat.min_eq_left hj]
    · rw [Nat.min_eq_right (by omega), List.take_of_length_le (by simp), List.take_of_length_le (by simp; omega)]
  · rw [show min i xs.length = xs.length from by omega, List.drop_length, List.drop_eq_nil_of_le (show xs.length ≤ i by omega)]
    simp
theorem sls_take {h : Hc} (xs : List Nat) (m : Nat) : slD (.str xs) none (some (m : Int)) h = .ok (.str (xs.take m)) h := by
  simp only [slD, cut_take]
theorem sls_drop {h : Hc} (xs : List Nat) (m : Nat) : slD (.str xs) (some (m : Int)) none h = .ok (.str (xs.drop m)) h := by
  simp only [slD, cut_drop]
theorem sls_drop1 {h : Hc} (xs : List Nat) (m : Nat) : slD (.str xs) (some ((m : Int) + 1)) none h = .ok (.str (xs.drop (m + 1))) h := by
  have : (m : Int) + 1 = ((m + 1 : Nat) : Int) := by simp
  rw [this, sls_drop]
theorem sls_mid {h : Hc} (xs : List Nat) (i j : Nat) : slD (.str xs) (some (i : Int)) (some (j : Int)) h = .ok (.str ((xs.drop i).take (j - i))) h := by
  simp only [slD, cut_mid]
theorem sorted2 (a b : Nat) {n : Nat} (ha : a ≤ n) (hb : b ≤ n) : ∃ x y : Nat, x ≤ y ∧ y ≤ n ∧ ∀ h, biD .sorted [.lst [.int a, .int b]] h = .ok (.lst [.int x, .int y]) h := by
  by_cases z : a ≤ b
  · refine ⟨a, b, z, hb, fun h => ?_⟩
    have : (a : Int) ≤ b := by omega
    simp only [biD, lstOf, intsOf, Option.map_some, sortI, insI, if_pos this, List.map_cons, List.map_nil]
  · refine ⟨b, a, by omega, ha, fun h => ?_⟩
    have : ¬ (a : Int) ≤ b := by omega
    simp only [biD, lstOf, intsOf, Option.map_some, sortI, insI, if_neg this, List.map_cons, List.map_nil]
theorem bin_adds' {h : Hc} {a b : List Nat} (z : a.length + b.length ≤ SZ) : binD .add (.str a) (.str b) h = .ok (.str (a ++ b)) h := bin_adds z
theorem near_bx {fs : List MFn} {gl : List Dv} {X : Ix} (hf : fs[X.l_near]? = some (F_l_near X)) (ht : fs[X.l_take]? = some (F_l_take X)) (ho : fs[X.l_of]? = some (F_l_of X))
    {k N n : Nat} {h : Hc} {p : List Nat} (bx : BX N h n) (hN : N < 2 ^ 50) (hp : p.length < 2 ^ 12) :
    ∃ (q : List Nat) (h' : Hc), callF fs gl (k + 3) X.l_near [.loc n, .str p] h = .ok (.str q) h' ∧ (∀ c ∈ q, c ∈ p) ∧ q.length + 1 ≤ 16 * (p.length + 1) ∧ BX (N + 100) h' n ∧ (h'.length = h.length ∧ Fr n h h') := by
  have ht' : fs[X.l_take]? = some fTake := ht
  have ho' : fs[X.l_of]? = some (fOf X.l_take) := ho
  obtain ⟨v, h1, e1, v1, b1, l1⟩ := take_bx (gl := gl) (k := k + 1) ht' bx (B := 4) (by omega) (by omega) (by omega) []
  simp only [List.append_nil] at e1
  obtain ⟨s2, h2, e2, q, x2, x3, x4, x5, x6, x7, x8, rfl, i2, i3, b2, l2⟩ := for_heap (cl := callF fs gl (k + 2)) (gl := gl) (tg := .name 2) (body := B_l_near_L1 X) (fun i : Nat => .int ((0 : Int) + (i : Nat)))
    (fun j s g => ∃ (q : List Nat) (x2 x3 x4 x5 x6 x7 x8 : Option Dv), s = [some (.loc n), some (.str q), x2, x3, x4, x5, x6, x7, x8] ∧ (∀ c ∈ q, c ∈ p) ∧ q.length + 1 ≤ 2 ^ j * (p.length + 1) ∧ BX (N + 1 + 10 * j) g n ∧ g.length = h.length ∧ Fr n h g)
    (List.range (1 + v)) 0 [some (.loc n), some (.str p), none, none, none, none, none, none, none] h1 ⟨p, none, none, none, none, none, none, none, rfl, fun _ z => z, by omega, b1, by omega, l1.2⟩ (by
      rintro j s g x hj ⟨q, x2, x3, x4, x5, x6, x7, x8, rfl, i2, i3, bg, lg⟩ hx
      rw [List.length_range] at hj
      have hj4 : 2 ^ j ≤ 2 ^ 3 := Nat.pow_le_pow_right (by decide) (by omega)
      have hq : q.length < 2 ^ 16 := by
        have : 2 ^ j * (p.length + 1) ≤ 8 * (p.length + 1) := Nat.mul_le_mul_right _ hj4
        omega
      have hpw : 2 ^ (j + 1) * (p.length + 1) = 2 * (2 ^ j * (p.length + 1)) := by rw [Nat.pow_succ]; ac_rfl
      obtain ⟨a, g1, f1, a1, c1, m1⟩ := take_bx (gl := gl) (k := k + 1) ht' bg (B := (q.length : Int) + 1) (by omega) (by omega) (by omega) []
      obtain ⟨b, g2, f2, a2, c2, m2⟩ := take_bx (gl := gl) (k := k + 1) ht' c1 (B := (q.length : Int) + 1) (by omega) (by omega) (by omega) []
      obtain ⟨w, g3, f3, a3, c3, m3⟩ := take_bx (gl := gl) (k := k + 1) ht' c2 (B := 5) (by omega) (by omega) (by omega) []
      simp only [List.append_nil] at f1 f2 f3
      obtain ⟨y, z, yz, zq, so⟩ := sorted2 a b (n := q.length) (by omega) (by omega)
      have hi : (0 : Int) + (x : Nat) = (x : Int) := by omega
      by_cases w3 : w < 3
      · by_cases q60 : q.length < 60
        · have d1 : decide ((w : Int) < 3) = true := decide_eq_true (by omega)
          have d2 : decide ((q.length : Int) < 60) = true := decide_eq_true (by omega)
          refine ⟨[some (.loc n), some (.str (q.take z ++ (q.drop y).take (z - y) ++ q.drop z)), some (.int ((0 : Int) + (x : Nat))), some (.lst [.int a, .int b]), some (.int w), some (.int y), some (.int z), some (.str ((q.drop y).take (z - y))), x8], g3, ?_, _, _, _, _, _, _, _, _, rfl, ?_, ?_, c3.le (by omega), by omega, ((lg.2.trans m1.2).trans m2.2).trans m3.2⟩
          · simp -implicitDefEqProofs only [B_l_near_L1, exs_cons, seqF, exs_nil, ex_asg, ex_par, ex_seti, ex_aug, ex_expr, ex_ret, ex_retn, ex_ite, ex_forr, ex_whil, ex_pass, ex_brk, ex_cont, ev_var, ev_cst, ev_glb, ev_bin, ev_cmp, ev_chain, ev_isn, ev_neg, ev_not, ev_bop, ev_ite, ev_tup, ev_lst, ev_new, ev_idx, ev_sl, ev_rev, ev_bi, ev_bi1, ev_mt, ev_call, ev_comp, ev_frz, evs_nil, evs_cons, evB_one, evB_cons, evO_none, evO_some, optF_int, evC_none, evC_some, evI_seq, evI_range1, evI_range2, evI_enum, evI_zip, rngF_int, rngF2_int, enuF_str, enuF_lst, permD, List.getElem?_cons_zero, List.getElem?_cons_succ, List.cons_append, List.nil_append, List.append_nil, List.set_cons_zero, List.set_cons_succ, Res.bind_ok, Res.calm_ok, tg_name, tg_tup1, tg_tup2, tg_tup3, tg_tup4, compF_ap, bodyF_ap, wipeD, List.length_cons, List.length_nil, List.zip_cons_cons, List.zip_nil_right, List.foldl_cons, List.foldl_nil, if_true, if_false, Bool.false_eq_true, Bool.true_eq_false, truth_bl, truth_str, truth_int, truth_lst, truth_tup, truth_non, Bool.not_true, Bool.not_false, beq_self_eq_true, Nat.zero_add, Nat.reduceAdd, Nat.reduceSub, SZ0, SZ1, SZ2, SZ3, SZ4, SZ5, SZ6, SZ7, SZ8, bin_add, bin_sub, cmp_lt, cmp_le, cmp_gt, cmp_ge, cmp_eqi, cmp_nei, cmp_eqs, cmp_nes, cmp_eqb, cmp_neb, cmp_inns, cmp_nins, bi_int, bi_intb, bi_abs, bi_lens, bi_lent, bi_lenl, seqD_str, seqD_tup, seqD_lst, rev_str, neg_int, endR, beq_tt, beq_ff, beq_tf, beq_ft, Bool.and_true, Bool.and_false, Bool.true_and, Bool.false_and, Bool.or_true, Bool.or_false, Bool.true_or, Bool.false_or, f1, f2, f3, so, tg_lst2, d1, d2, sls_mid, sls_take, sls_drop, bin_adds (show (q.take z).length + ((q.drop y).take (z - y)).length ≤ SZ by simp; unfold SZ; omega), bin_adds (show (q.take z ++ (q.drop y).take (z - y)).length + (q.drop z).length ≤ SZ by simp; unfold SZ; omega)]
          · intro c hc
            rcases List.mem_append.mp hc with hc | hc
            · rcases List.mem_append.mp hc with hc | hc
              · exact i2 c (List.mem_of_mem_take hc)
              · exact i2 c (List.mem_of_mem_drop (List.mem_of_mem_take hc))
            · exact i2 c (List.mem_of_mem_drop hc)
          · simp only [List.length_append, List.length_take, List.length_drop]
            omega
        · have d1 : decide ((w : Int) < 3) = true := decide_eq_true (by omega)
          have d2 : decide ((q.length : Int) < 60) = false := decide_eq_false (by omega)
          have d4 : ((w : Int) == 3) = false := by rw [beq_eq_false_iff_ne]; omega
          have qn : q ≠ [] := fun e => by rw [e] at q60; simp at q60
          have d3 : (!(q == ([] : List Nat))) = true := by simp [qn]
          obtain ⟨c, g4, f4, a4, c4, m4⟩ := of_bxs (gl := gl) (k := k) ho' ht' (s := q) c3 (by omega) qn (by omega)
          refine ⟨[some (.loc n), some (.str (q.take y ++ [c] ++ q.drop y)), some (.int ((0 : Int) + (x : Nat))), some (.lst [.int a, .int b]), some (.int w), some (.int y), some (.int z), x7, x8], g4, ?_, _, _, _, _, _, _, _, _, rfl, ?_, ?_, c4.le (by omega), by omega, (((lg.2.trans m1.2).trans m2.2).trans m3.2).trans m4.2⟩
          · simp -implicitDefEqProofs only [B_l_near_L1, exs_cons, seqF, exs_nil, ex_asg, ex_par, ex_seti, ex_aug, ex_expr, ex_ret, ex_retn, ex_ite, ex_forr, ex_whil, ex_pass, ex_brk, ex_cont, ev_var, ev_cst, ev_glb, ev_bin, ev_cmp, ev_chain, ev_isn, ev_neg, ev_not, ev_bop, ev_ite, ev_tup, ev_lst, ev_new, ev_idx, ev_sl, ev_rev, ev_bi, ev_bi1, ev_mt, ev_call, ev_comp, ev_frz, evs_nil, evs_cons, evB_one, evB_cons, evO_none, evO_some, optF_int, evC_none, evC_some, evI_seq, evI_range1, evI_range2, evI_enum, evI_zip, rngF_int, rngF2_int, enuF_str, enuF_lst, permD, List.getElem?_cons_zero, List.getElem?_cons_succ, List.cons_append, List.nil_append, List.append_nil, List.set_cons_zero, List.set_cons_succ, Res.bind_ok, Res.calm_ok, tg_name, tg_tup1, tg_tup2, tg_tup3, tg_tup4, compF_ap, bodyF_ap, wipeD, List.length_cons, List.length_nil, List.zip_cons_cons, List.zip_nil_right, List.foldl_cons, List.foldl_nil, if_true, if_false, Bool.false_eq_true, Bool.true_eq_false, truth_bl, truth_str, truth_int, truth_lst, truth_tup, truth_non, Bool.not_true, Bool.not_false, beq_self_eq_true, Nat.zero_add, Nat.reduceAdd, Nat.reduceSub, SZ0, SZ1, SZ2, SZ3, SZ4, SZ5, SZ6, SZ7, SZ8, bin_add, bin_sub, cmp_lt, cmp_le, cmp_gt, cmp_ge, cmp_eqi, cmp_nei, cmp_eqs, cmp_nes, cmp_eqb, cmp_neb, cmp_inns, cmp_nins, bi_int, bi_intb, bi_abs, bi_lens, bi_lent, bi_lenl, seqD_str, seqD_tup, seqD_lst, rev_str, neg_int, endR, beq_tt, beq_ff, beq_tf, beq_ft, Bool.and_true, Bool.and_false, Bool.true_and, Bool.false_and, Bool.or_true, Bool.or_false, Bool.true_or, Bool.false_or, f1, f2, f3, f4, so, tg_lst2, d1, d2, d4, d3, sls_mid, sls_take, sls_drop, bin_adds (show (q.take y).length + [c].length ≤ SZ by simp; unfold SZ; omega), bin_adds (show (q.take y ++ [c]).length + (q.drop y).length ≤ SZ by simp; unfold SZ; omega)]
          · intro e he
            rcases List.mem_append.mp he with he | he
            · rcases List.mem_append.mp he with he | he
              · exact i2 e (List.mem_of_mem_take he)
              · rcases List.mem_singleton.mp he with rfl
                exact i2 _ a4
            · exact i2 e (List.mem_of_mem_drop he)
          · simp only [List.length_append, List.length_take, List.length_drop, List.length_cons, List.length_nil]
            omega
      · have d1 : decide ((w : Int) < 3) = false := decide_eq_false (by omega)
        by_cases w4 : w = 3
        · have d4 : ((w : Int) == 3) = true := by rw [beq_iff_eq]; omega
          by_cases qn : q = []
          · subst qn
            have d3 : (!(([] : List Nat) == ([] : List Nat))) = false := by simp
            refine ⟨[some (.loc n), some (.str []), some (.int ((0 : Int) + (x : Nat))), some (.lst [.int a, .int b]), some (.int w), some (.int y), some (.int z), x7, x8], g3, ?_, _, _, _, _, _, _, _, _, rfl, i2, by omega, c3.le (by omega), by omega, ((lg.2.trans m1.2).trans m2.2).trans m3.2⟩
            simp only [List.length_nil] at f1 f2
            simp -implicitDefEqProofs only [B_l_near_L1, exs_cons, seqF, exs_nil, ex_asg, ex_par, ex_seti, ex_aug, ex_expr, ex_ret, ex_retn, ex_ite, ex_forr, ex_whil, ex_pass, ex_brk, ex_cont, ev_var, ev_cst, ev_glb, ev_bin, ev_cmp, ev_chain, ev_isn, ev_neg, ev_not, ev_bop, ev_ite, ev_tup, ev_lst, ev_new, ev_idx, ev_sl, ev_rev, ev_bi, ev_bi1, ev_mt, ev_call, ev_comp, ev_frz, evs_nil, evs_cons, evB_one, evB_cons, evO_none, evO_some, optF_int, evC_none, evC_some, evI_seq, evI_range1, evI_range2, evI_enum, evI_zip, rngF_int, rngF2_int, enuF_str, enuF_lst, permD, List.getElem?_cons_zero, List.getElem?_cons_succ, List.cons_append, List.nil_append, List.append_nil, List.set_cons_zero, List.set_cons_succ, Res.bind_ok, Res.calm_ok, tg_name, tg_tup1, tg_tup2, tg_tup3, tg_tup4, compF_ap, bodyF_ap, wipeD, List.length_cons, List.length_nil, List.zip_cons_cons, List.zip_nil_right, List.foldl_cons, List.foldl_nil, if_true, if_false, Bool.false_eq_true, Bool.true_eq_false, truth_bl, truth_str, truth_int, truth_lst, truth_tup, truth_non, Bool.not_true, Bool.not_false, beq_self_eq_true, Nat.zero_add, Nat.reduceAdd, Nat.reduceSub, SZ0, SZ1, SZ2, SZ3, SZ4, SZ5, SZ6, SZ7, SZ8, bin_add, bin_sub, cmp_lt, cmp_le, cmp_gt, cmp_ge, cmp_eqi, cmp_nei, cmp_eqs, cmp_nes, cmp_eqb, cmp_neb, cmp_inns, cmp_nins, bi_int, bi_intb, bi_abs, bi_lens, bi_lent, bi_lenl, seqD_str, seqD_tup, seqD_lst, rev_str, neg_int, endR, beq_tt, beq_ff, beq_tf, beq_ft, Bool.and_true, Bool.and_false, Bool.true_and, Bool.false_and, Bool.or_true, Bool.or_false, Bool.true_or, Bool.false_or, f1, f2, f3, so, tg_lst2, d1, d4, d3]
          · have d3 : (!(q == ([] : List Nat))) = true := by simp [qn]
            obtain ⟨v4, g4, f4, a4, c4, m4⟩ := take_bx (gl := gl) (k := k + 1) ht' c3 (B := (q.length : Int)) (by omega) (by have := List.length_pos_iff.mpr qn; omega) (by omega) []
            simp only [List.append_nil] at f4
            refine ⟨[some (.loc n), some (.str (q.take v4 ++ q.drop (v4 + 1))), some (.int ((0 : Int) + (x : Nat))), some (.lst [.int a, .int b]), some (.int w), some (.int y), some (.int z), x7, some (.int v4)], g4, ?_, _, _, _, _, _, _, _, _, rfl, ?_, ?_, c4.le (by omega), by omega, (((lg.2.trans m1.2).trans m2.2).trans m3.2).trans m4.2⟩
            · simp -implicitDefEqProofs only [B_l_near_L1, exs_cons, seqF, exs_nil, ex_asg, ex_par, ex_seti, ex_aug, ex_expr, ex_ret, ex_retn, ex_ite, ex_forr, ex_whil, ex_pass, ex_brk, ex_cont, ev_var, ev_cst, ev_glb, ev_bin, ev_cmp, ev_chain, ev_isn, ev_neg, ev_not, ev_bop, ev_ite, ev_tup, ev_lst, ev_new, ev_idx, ev_sl, ev_rev, ev_bi, ev_bi1, ev_mt, ev_call, ev_comp, ev_frz, evs_nil, evs_cons, evB_one, evB_cons, evO_none, evO_some, optF_int, evC_none, evC_some, evI_seq, evI_range1, evI_range2, evI_enum, evI_zip, rngF_int, rngF2_int, enuF_str, enuF_lst, permD, List.getElem?_cons_zero, List.getElem?_cons_succ, List.cons_append, List.nil_append, List.append_nil, List.set_cons_zero, List.set_cons_succ, Res.bind_ok, Res.calm_ok, tg_name, tg_tup1, tg_tup2, tg_tup3, tg_tup4, compF_ap, bodyF_ap, wipeD, List.length_cons, List.length_nil, List.zip_cons_cons, List.zip_nil_right, List.foldl_cons, List.foldl_nil, if_true, if_false, Bool.false_eq_true, Bool.true_eq_false, truth_bl, truth_str, truth_int, truth_lst, truth_tup, truth_non, Bool.not_true, Bool.not_false, beq_self_eq_true, Nat.zero_add, Nat.reduceAdd, Nat.reduceSub, SZ0, SZ1, SZ2, SZ3, SZ4, SZ5, SZ6, SZ7, SZ8, bin_add, bin_sub, cmp_lt, cmp_le, cmp_gt, cmp_ge, cmp_eqi, cmp_nei, cmp_eqs, cmp_nes, cmp_eqb, cmp_neb, cmp_inns, cmp_nins, bi_int, bi_intb, bi_abs, bi_lens, bi_lent, bi_lenl, seqD_str, seqD_tup, seqD_lst, rev_str, neg_int, endR, beq_tt, beq_ff, beq_tf, beq_ft, Bool.and_true, Bool.and_false, Bool.true_and, Bool.false_and, Bool.or_true, Bool.or_false, Bool.true_or, Bool.false_or, f1, f2, f3, f4, so, tg_lst2, d1, d4, d3, sls_take, sls_drop1, bin_adds (show (q.take v4).length + (q.drop (v4 + 1)).length ≤ SZ by simp; unfold SZ; omega)]
            · intro e he
              rcases List.mem_append.mp he with he | he
              · exact i2 e (List.mem_of_mem_take he)
              · exact i2 e (List.mem_of_mem_drop he)
            · simp only [List.length_append, List.length_take, List.length_drop]
              omega
        · have d4 : ((w : Int) == 3) = false := by rw [beq_eq_false_iff_ne]; omega
          by_cases qn : q = []
          · subst qn
            have d3 : (!(([] : List Nat) == ([] : List Nat))) = false := by simp
            refine ⟨[some (.loc n), some (.str []), some (.int ((0 : Int) + (x : Nat))), some (.lst [.int a, .int b]), some (.int w), some (.int y), some (.int z), x7, x8], g3, ?_, _, _, _, _, _, _, _, _, rfl, i2, by omega, c3.le (by omega), by omega, ((lg.2.trans m1.2).trans m2.2).trans m3.2⟩
            simp only [List.length_nil] at f1 f2
            simp -implicitDefEqProofs only [B_l_near_L1, exs_cons, seqF, exs_nil, ex_asg, ex_par, ex_seti, ex_aug, ex_expr, ex_ret, ex_retn, ex_ite, ex_forr, ex_whil, ex_pass, ex_brk, ex_cont, ev_var, ev_cst, ev_glb, ev_bin, ev_cmp, ev_chain, ev_isn, ev_neg, ev_not, ev_bop, ev_ite, ev_tup, ev_lst, ev_new, ev_idx, ev_sl, ev_rev, ev_bi, ev_bi1, ev_mt, ev_call, ev_comp, ev_frz, evs_nil, evs_cons, evB_one, evB_cons, evO_none, evO_some, optF_int, evC_none, evC_some, evI_seq, evI_range1, evI_range2, evI_enum, evI_zip, rngF_int, rngF2_int, enuF_str, enuF_lst, permD, List.getElem?_cons_zero, List.getElem?_cons_succ, List.cons_append, List.nil_append, List.append_nil, List.set_cons_zero, List.set_cons_succ, Res.bind_ok, Res.calm_ok, tg_name, tg_tup1, tg_tup2, tg_tup3, tg_tup4, compF_ap, bodyF_ap, wipeD, List.length_cons, List.length_nil, List.zip_cons_cons, List.zip_nil_right, List.foldl_cons, List.foldl_nil, if_true, if_false, Bool.false_eq_true, Bool.true_eq_false, truth_bl, truth_str, truth_int, truth_lst, truth_tup, truth_non, Bool.not_true, Bool.not_false, beq_self_eq_true, Nat.zero_add, Nat.reduceAdd, Nat.reduceSub, SZ0, SZ1, SZ2, SZ3, SZ4, SZ5, SZ6, SZ7, SZ8, bin_add, bin_sub, cmp_lt, cmp_le, cmp_gt, cmp_ge, cmp_eqi, cmp_nei, cmp_eqs, cmp_nes, cmp_eqb, cmp_neb, cmp_inns, cmp_nins, bi_int, bi_intb, bi_abs, bi_lens, bi_lent, bi_lenl, seqD_str, seqD_tup, seqD_lst, rev_str, neg_int, endR, beq_tt, beq_ff, beq_tf, beq_ft, Bool.and_true, Bool.and_false, Bool.true_and, Bool.false_and, Bool.or_true, Bool.or_false, Bool.true_or, Bool.false_or, f1, f2, f3, so, tg_lst2, d1, d4, d3]
          · have qn : q ≠ [] := qn
            have d3 : (!(q == ([] : List Nat))) = true := by simp [qn]
            obtain ⟨c, g4, f4, a4, c4, m4⟩ := of_bxs (gl := gl) (k := k) ho' ht' (s := q) c3 (by omega) qn (by omega)
            refine ⟨[some (.loc n), some (.str (q.take y ++ [c] ++ q.drop y)), some (.int ((0 : Int) + (x : Nat))), some (.lst [.int a, .int b]), some (.int w), some (.int y), some (.int z), x7, x8], g4, ?_, _, _, _, _, _, _, _, _, rfl, ?_, ?_, c4.le (by omega), by omega, (((lg.2.trans m1.2).trans m2.2).trans m3.2).trans m4.2⟩
            · simp -implicitDefEqProofs only [B_l_near_L1, exs_cons, seqF, exs_nil, ex_asg, ex_par, ex_seti, ex_aug, ex_expr, ex_ret, ex_retn, ex_ite, ex_forr, ex_whil, ex_pass, ex_brk, ex_cont, ev_var, ev_cst, ev_glb, ev_bin, ev_cmp, ev_chain, ev_isn, ev_neg, ev_not, ev_bop, ev_ite, ev_tup, ev_lst, ev_new, ev_idx, ev_sl, ev_rev, ev_bi, ev_bi1, ev_mt, ev_call, ev_comp, ev_frz, evs_nil, evs_cons, evB_one, evB_cons, evO_none, evO_some, optF_int, evC_none, evC_some, evI_seq, evI_range1, evI_range2, evI_enum, evI_zip, rngF_int, rngF2_int, enuF_str, enuF_lst, permD, List.getElem?_cons_zero, List.getElem?_cons_succ, List.cons_append, List.nil_append, List.append_nil, List.set_cons_zero, List.set_cons_succ, Res.bind_ok, Res.calm_ok, tg_name, tg_tup1, tg_tup2, tg_tup3, tg_tup4, compF_ap, bodyF_ap, wipeD, List.length_cons, List.length_nil, List.zip_cons_cons, List.zip_nil_right, List.foldl_cons, List.foldl_nil, if_true, if_false, Bool.false_eq_true, Bool.true_eq_false, truth_bl, truth_str, truth_int, truth_lst, truth_tup, truth_non, Bool.not_true, Bool.not_false, beq_self_eq_true, Nat.zero_add, Nat.reduceAdd, Nat.reduceSub, SZ0, SZ1, SZ2, SZ3, SZ4, SZ5, SZ6, SZ7, SZ8, bin_add, bin_sub, cmp_lt, cmp_le, cmp_gt, cmp_ge, cmp_eqi, cmp_nei, cmp_eqs, cmp_nes, cmp_eqb, cmp_neb, cmp_inns, cmp_nins, bi_int, bi_intb, bi_abs, bi_lens, bi_lent, bi_lenl, seqD_str, seqD_tup, seqD_lst, rev_str, neg_int, endR, beq_tt, beq_ff, beq_tf, beq_ft, Bool.and_true, Bool.and_false, Bool.true_and, Bool.false_and, Bool.or_true, Bool.or_false, Bool.true_or, Bool.false_or, f1, f2, f3, f4, so, tg_lst2, d1, d4, d3, sls_mid, sls_take, sls_drop, bin_adds (show (q.take y).length + [c].length ≤ SZ by simp; unfold SZ; omega), bin_adds (show (q.take y ++ [c]).length + (q.drop y).length ≤ SZ by simp; unfold SZ; omega)]
            · intro e he
              rcases List.mem_append.mp he with he | he
              · rcases List.mem_append.mp he with he | he
                · exact i2 e (List.mem_of_mem_take he)
                · rcases List.mem_singleton.mp he with rfl
                  exact i2 _ a4
              · exact i2 e (List.mem_of_mem_drop he)
            · simp only [List.length_append, List.length_take, List.length_drop, List.length_cons, List.length_nil]
              omega)
  rw [List.length_range, Nat.zero_add] at i3 b2
  have hpw : 2 ^ (1 + v) ≤ 2 ^ 4 := Nat.pow_le_pow_right (by decide) (by omega)
  have hpm : 2 ^ (1 + v) * (p.length + 1) ≤ 16 * (p.length + 1) := Nat.mul_le_mul_right _ hpw
  refine ⟨q, h2, ?_, i2, by omega, b2.le (by omega), l2⟩
  rw [callF_in hf rfl]
  have rg : rangeD 0 ((1 : Int) + (v : Int)) h1 = .ok ((List.range (1 + v)).map fun i => .int ((0 : Int) + (i : Nat))) h1 := by
    have : (1 : Int) + (v : Int) = ((1 + v : Nat) : Int) := by omega
    rw [this, rangeD_map (by omega)]
  have tl := @trim_len h.length (.str q) h2 l2.1
  simp only [F_l_near, B_l_near, startD, List.map_cons, List.map_nil, List.replicate, List.length_cons, List.length_nil, Nat.reduceAdd, Nat.reduceSub, List.cons_append, List.nil_append]
  simp -implicitDefEqProofs only [exs_cons, seqF, exs_nil, ex_asg, ex_par, ex_seti, ex_aug, ex_expr, ex_ret, ex_retn, ex_ite, ex_forr, ex_whil, ex_pass, ex_brk, ex_cont, ev_var, ev_cst, ev_glb, ev_bin, ev_cmp, ev_chain, ev_isn, ev_neg, ev_not, ev_bop, ev_ite, ev_tup, ev_lst, ev_new, ev_idx, ev_sl, ev_rev, ev_bi, ev_bi1, ev_mt, ev_call, ev_comp, ev_frz, evs_nil, evs_cons, evB_one, evB_cons, evO_none, evO_some, optF_int, evC_none, evC_some, evI_seq, evI_range1, evI_range2, evI_enum, evI_zip, rngF_int, rngF2_int, enuF_str, enuF_lst, permD, List.getElem?_cons_zero, List.getElem?_cons_succ, List.cons_append, List.nil_append, List.append_nil, List.set_cons_zero, List.set_cons_succ, Res.bind_ok, Res.calm_ok, tg_name, tg_tup1, tg_tup2, tg_tup3, tg_tup4, compF_ap, bodyF_ap, wipeD, List.length_cons, List.length_nil, List.zip_cons_cons, List.zip_nil_right, List.foldl_cons, List.foldl_nil, if_true, if_false, Bool.false_eq_true, Bool.true_eq_false, truth_bl, truth_str, truth_int, truth_lst, truth_tup, truth_non, Bool.not_true, Bool.not_false, beq_self_eq_true, Nat.zero_add, Nat.reduceAdd, Nat.reduceSub, SZ0, SZ1, SZ2, SZ3, SZ4, SZ5, SZ6, SZ7, SZ8, bin_add, bin_sub, cmp_lt, cmp_le, cmp_gt, cmp_ge, cmp_eqi, cmp_nei, cmp_eqs, cmp_nes, cmp_eqb, cmp_neb, cmp_inns, cmp_nins, bi_int, bi_intb, bi_abs, bi_lens, bi_lent, bi_lenl, seqD_str, seqD_tup, seqD_lst, rev_str, neg_int, endR, beq_tt, beq_ff, beq_tf, beq_ft, Bool.and_true, Bool.and_false, Bool.true_and, Bool.false_and, Bool.or_true, Bool.or_false, Bool.true_or, Bool.false_or, e1, rg, e2, tl]
end Dn

set_option Elab.async false
set_option linter.all false
set_option maxRecDepth 100000
set_option maxHeartbeats 4000000
/-! plans and their forms, in plain words -/
namespace Dn
/-- what stands behind the letter that is gone first; this letter -/
def behind : List Nat → List Nat
  | [] => []
  | c :: r => if c ∈ r then behind r else r
def went : List Nat → Nat
  | [] => 0
  | c :: r => if c ∈ r then went r else c
def ahead (p : List Nat) : List Nat := (behind p.reverse).reverse
def came (p : List Nat) : Nat := went p.reverse
theorem behind_len : ∀ {p : List Nat}, p ≠ [] → (behind p).length < p.length
  | [], h => absurd rfl h
  | c :: r, _ => by
    rw [behind]
    split
    · rename_i hc
      have := behind_len (p := r) (by rintro rfl; cases hc)
      simp; omega
    · simp
theorem ahead_len {p : List Nat} (h : p ≠ []) : (ahead p).length < p.length := by
  have := behind_len (p := p.reverse) (by simpa using h)
  simpa [ahead] using this
inductive Fm where
  | nil | node (a : Fm) (x y : Nat) (b : Fm)
  deriving DecidableEq
def form (p : List Nat) : Fm := if h : p = [] then .nil else .node (form (ahead p)) (came p) (went p) (form (behind p))
termination_by p.length
decreasing_by
  · exact ahead_len h
  · exact behind_len h
theorem form_nil : form [] = .nil := by rw [form]; simp
theorem form_node {p : List Nat} (h : p ≠ []) : form p = .node (form (ahead p)) (came p) (went p) (form (behind p)) := by
  rw [form]; simp [h]
theorem went_mem : ∀ {p : List Nat}, p ≠ [] → went p ∈ p
  | [], h => absurd rfl h
  | c :: r, _ => by
    rw [went]
    split
    · rename_i hc
      exact .tail _ (went_mem (by rintro rfl; cases hc))
    · exact .head _
theorem went_not : ∀ (p : List Nat), p ≠ [] → went p ∉ behind p
  | [], h => absurd rfl h
  | c :: r, _ => by
    rw [went, behind]
    split
    · rename_i hc
      exact went_not r (by rintro rfl; cases hc)
    · assumption
theorem behind_sub : ∀ (p : List Nat) (c : Nat), c ∈ behind p → c ∈ p
  | [], c, h => h
  | d :: r, c, h => by
    rw [behind] at h
    split at h
    · exact .tail _ (behind_sub r c h)
    · exact .tail _ h
theorem mem_behind : ∀ (p : List Nat) (c : Nat), c ∈ p → c = went p ∨ c ∈ behind p
  | d :: r, c, h => by
    rw [went, behind]
    by_cases hd : d ∈ r
    · rw [if_pos hd, if_pos hd]
      rcases List.mem_cons.mp h with rfl | h
      · exact mem_behind r c hd
      · exact mem_behind r c h
    · rw [if_neg hd, if_neg hd]
      exact List.mem_cons.mp h
theorem split_behind : ∀ (p : List Nat), p ≠ [] → ∃ u, p = u ++ went p :: behind p
  | [], h => absurd rfl h
  | c :: r, _ => by
    rw [went, behind]
    by_cases hc : c ∈ r
    · rw [if_pos hc, if_pos hc]
      obtain ⟨u, e⟩ := split_behind r (by rintro rfl; cases hc)
      exact ⟨c :: u, by rw [List.cons_append, ← e]⟩
    · rw [if_neg hc, if_neg hc]
      exact ⟨[], rfl⟩
theorem came_mem {p : List Nat} (h : p ≠ []) : came p ∈ p := List.mem_reverse.mp (went_mem (by simpa using h))
theorem came_not {p : List Nat} (h : p ≠ []) : came p ∉ ahead p := fun z => went_not p.reverse (by simpa using h) (List.mem_reverse.mp z)
theorem ahead_sub (p : List Nat) (c : Nat) (h : c ∈ ahead p) : c ∈ p := List.mem_reverse.mp (behind_sub _ c (List.mem_reverse.mp h))
theorem mem_ahead (p : List Nat) (c : Nat) (h : c ∈ p) : c = came p ∨ c ∈ ahead p := by
  rcases mem_behind p.reverse c (List.mem_reverse.mpr h) with z | z
  · exact .inl z
  · exact .inr (List.mem_reverse.mpr z)
theorem split_ahead {p : List Nat} (h : p ≠ []) : ∃ v, p = ahead p ++ came p :: v := by
  obtain ⟨u, e⟩ := split_behind p.reverse (by simpa using h)
  refine ⟨u.reverse, ?_⟩
  have := congrArg List.reverse e
  simpa [ahead, came] using this
theorem ahead_snoc (q : List Nat) (c : Nat) : ahead (q ++ [c]) = if c ∈ q then ahead q else q := by
  unfold ahead
  rw [List.reverse_append, List.reverse_singleton, List.singleton_append, behind]
  by_cases z : c ∈ q
  · rw [if_pos (by simpa using z), if_pos z]
  · rw [if_neg (by simpa using z), if_neg z, List.reverse_reverse]
theorem came_snoc (q : List Nat) (c : Nat) : came (q ++ [c]) = if c ∈ q then came q else c := by
  unfold came
  rw [List.reverse_append, List.reverse_singleton, List.singleton_append, went]
  by_cases z : c ∈ q
  · rw [if_pos (by simpa using z), if_pos z]
  · rw [if_neg (by simpa using z), if_neg z]
theorem ahead_rev (p : List Nat) : ahead p.reverse = (behind p).reverse := by unfold ahead; rw [List.reverse_reverse]
theorem came_rev (p : List Nat) : came p.reverse = went p := by unfold came; rw [List.reverse_reverse]
/-! ### how many letters -/
def nl (p : List Nat) : Nat := (signs p).length
theorem signs_nodup (p : List Nat) : (signs p).Nodup := (signs_sorted p).imp fun {a b} h => by omega
theorem len_nodup {a b : List Nat} (n : a.Nodup) (s : ∀ c ∈ a, c ∈ b) : a.length ≤ b.length := by
  induction a generalizing b with
  | nil => simp
  | cons x a ih =>
    have n2 := List.nodup_cons.mp n
    have hx := s x (.head _)
    have := ih (b := b.erase x) n2.2 fun c hc => by
      rw [List.mem_erase_of_ne]
      · exact s c (.tail _ hc)
      · rintro rfl; exact n2.1 hc
    rw [List.length_erase_of_mem hx] at this
    have := List.length_pos_of_mem hx
    simp; omega
theorem nl_le {p q : List Nat} (s : ∀ c ∈ p, c ∈ q) : nl p ≤ nl q := len_nodup (signs_nodup p) fun c hc => (signs_mem c q).mpr (s c ((signs_mem c p).mp hc))
theorem nl_lt {p q : List Nat} (s : ∀ c ∈ p, c ∈ q) {x : Nat} (hx : x ∈ q) (hn : x ∉ p) : nl p < nl q := by
  have : (x :: signs p).length ≤ (signs q).length := len_nodup (List.nodup_cons.mpr ⟨fun z => hn ((signs_mem x p).mp z), signs_nodup p⟩) fun c hc => by
    rcases List.mem_cons.mp hc with rfl | hc
    · exact (signs_mem _ q).mpr hx
    · exact (signs_mem c q).mpr (s c ((signs_mem c p).mp hc))
  unfold nl
  simp only [List.length_cons] at this
  omega
theorem nl_behind {p : List Nat} (h : p ≠ []) : nl (behind p) < nl p := nl_lt (behind_sub p) (went_mem h) (went_not p h)
theorem nl_ahead {p : List Nat} (h : p ≠ []) : nl (ahead p) < nl p := nl_lt (ahead_sub p) (came_mem h) (came_not h)
theorem nl_Pl {p : List Nat} (h : Pl p) : nl p ≤ 8 := by
  have : nl p ≤ nl ABC := nl_le h
  have e : nl ABC = 8 := by decide
  omega
theorem Pl.ahead {p : List Nat} (h : Pl p) : Pl (ahead p) := fun c hc => h c (ahead_sub p c hc)
theorem Pl.behind {p : List Nat} (h : Pl p) : Pl (behind p) := fun c hc => h c (behind_sub p c hc)
theorem Pl.app {p q : List Nat} (a : Pl p) (b : Pl q) : Pl (p ++ q) := fun c hc => by
  rcases List.mem_append.mp hc with z | z
  · exact a c z
  · exact b c z
theorem Pl.rev {p : List Nat} (a : Pl p) : Pl p.reverse := fun c hc => a c (List.mem_reverse.mp hc)
/-! ### letters in the order of their first places -/
def nstep (acc : List Nat) (c : Nat) : List Nat := if c ∈ acc then acc else acc ++ [c]
def newsL (p : List Nat) : List Nat := p.foldl nstep []
def gonesL (p : List Nat) : List Nat := (newsL p.reverse).reverse
theorem newsL_snoc (q : List Nat) (c : Nat) : newsL (q ++ [c]) = nstep (newsL q) c := by
  unfold newsL; rw [List.foldl_append]; rfl
theorem list_snoc {P : List Nat → Prop} (h0 : P []) (h1 : ∀ q c, P q → P (q ++ [c])) (p : List Nat) : P p := by
  have : ∀ r : List Nat, P r.reverse := by
    intro r
    induction r with
    | nil => exact h0
    | cons c r ih => rw [List.reverse_cons]; exact h1 _ _ ih
  have := this p.reverse
  rwa [List.reverse_reverse] at this
theorem newsL_mem (p : List Nat) : ∀ c, c ∈ newsL p ↔ c ∈ p := by
  induction p using list_snoc with
  | h0 => intro c; exact Iff.rfl
  | h1 q d ih =>
    intro c
    rw [newsL_snoc, nstep]
    by_cases z : d ∈ newsL q
    · rw [if_pos z, ih, List.mem_append, List.mem_singleton]
      constructor
      · exact .inl
      · rintro (w | rfl)
        · exact w
        · exact (ih _).mp z
    · rw [if_neg z, List.mem_append, ih, List.mem_append]
theorem newsL_last {p : List Nat} (h : p ≠ []) : (newsL p).getLast? = some (came p) := by
  induction p using list_snoc with
  | h0 => exact absurd rfl h
  | h1 q d ih =>
    rw [newsL_snoc, nstep, came_snoc]
    by_cases z : d ∈ q
    · rw [if_pos ((newsL_mem q d).mpr z), if_pos z]
      exact ih (by rintro rfl; cases z)
    · rw [if_neg fun w => z ((newsL_mem q d).mp w), if_neg z]
      simp
theorem newsL_nodup (p : List Nat) : (newsL p).Nodup := by
  induction p using list_snoc with
  | h0 => exact List.nodup_nil
  | h1 q d ih =>
    rw [newsL_snoc, nstep]
    by_cases z : d ∈ newsL q
    · rw [if_pos z]; exact ih
    · rw [if_neg z, List.nodup_append]
      refine ⟨ih, by simp, fun a ha b hb => ?_⟩
      rcases List.mem_singleton.mp hb with rfl
      rintro rfl
      exact z ha
theorem newsL_len (p : List Nat) : (newsL p).length ≤ p.length := len_nodup (newsL_nodup p) fun c hc => (newsL_mem p c).mp hc
theorem gonesL_first {p : List Nat} (h : p ≠ []) : (gonesL p).head? = some (went p) := by
  unfold gonesL
  rw [List.head?_reverse, newsL_last (by simpa using h), came_rev]
/-! ### first and last places -/
theorem pre1 (c x : Nat) (t : List Nat) : [c].isPrefixOf (x :: t) = (c == x) := by simp [List.isPrefixOf]
theorem findAt_split {c : Nat} : ∀ {u : List Nat} (v : List Nat) (k : Nat), c ∉ u → findAt [c] (u ++ c :: v) k = some (k + u.length)
  | [], v, k, _ => by simp [findAt, pre1]
  | x :: u, v, k, h => by
    have hx : (c == x) = false := by simp only [beq_eq_false_iff_ne]; rintro rfl; exact h (.head _)
    rw [List.cons_append, findAt, pre1, hx, if_neg (by decide), findAt_split v (k + 1) fun z => h (.tail _ z)]
    simp; omega
theorem find_split {c : Nat} {u v : List Nat} (h : c ∉ u) : findS (u ++ c :: v) [c] = (u.length : Int) := by
  unfold findS
  rw [findAt_split v 0 h]
  simp
theorem findAt_no {c : Nat} : ∀ {u : List Nat} (k : Nat), c ∉ u → findAt [c] u k = none
  | [], k, _ => by simp [findAt]
  | x :: u, k, h => by
    have hx : (c == x) = false := by simp only [beq_eq_false_iff_ne]; rintro rfl; exact h (.head _)
    rw [findAt, pre1, hx, if_neg (by decide), findAt_no (k + 1) fun z => h (.tail _ z)]
theorem find_no {c : Nat} {u : List Nat} (h : c ∉ u) : findS u [c] = -1 := by
  unfold findS
  rw [findAt_no 0 h]
theorem rfindAt_no {c : Nat} : ∀ {u : List Nat} (k : Nat), c ∉ u → rfindAt [c] u k = none
  | [], k, _ => by simp [rfindAt]
  | x :: u, k, h => by
    have hx : (c == x) = false := by simp only [beq_eq_false_iff_ne]; rintro rfl; exact h (.head _)
    rw [rfindAt, rfindAt_no (k + 1) fun z => h (.tail _ z)]
    simp [pre1, hx]
theorem rfindAt_split {c : Nat} : ∀ (u : List Nat) {v : List Nat} (k : Nat), c ∉ v → rfindAt [c] (u ++ c :: v) k = some (k + u.length)
  | [], v, k, h => by
    rw [List.nil_append, rfindAt, rfindAt_no (k + 1) h]
    simp [pre1]
  | x :: u, v, k, h => by
    rw [List.cons_append, rfindAt, rfindAt_split u (k + 1) h]
    simp; omega
theorem rfind_split {c : Nat} {u v : List Nat} (h : c ∉ v) : rfindS (u ++ c :: v) [c] = (u.length : Int) := by
  unfold rfindS
  rw [rfindAt_split u 0 h]
  simp
theorem rfind_no {c : Nat} {u : List Nat} (h : c ∉ u) : rfindS u [c] = -1 := by
  unfold rfindS
  rw [rfindAt_no 0 h]
theorem mem_first {c : Nat} : ∀ {a : List Nat}, c ∈ a → ∃ u v, a = u ++ c :: v ∧ c ∉ u
  | x :: a, h => by
    by_cases z : x = c
    · subst z; exact ⟨[], a, rfl, by simp⟩
    · rcases List.mem_cons.mp h with rfl | h
      · exact absurd rfl z
      · obtain ⟨u, v, rfl, hu⟩ := mem_first h
        exact ⟨x :: u, v, rfl, fun w => by rcases List.mem_cons.mp w with rfl | w; exact z rfl; exact hu w⟩
theorem mem_last {c : Nat} {a : List Nat} (h : c ∈ a) : ∃ u v, a = u ++ c :: v ∧ c ∉ v := by
  obtain ⟨u, v, e, hu⟩ := mem_first (List.mem_reverse.mpr h)
  refine ⟨v.reverse, u.reverse, ?_, by simpa using hu⟩
  have := congrArg List.reverse e
  simpa using this
theorem sub1 (c : Nat) (a : List Nat) : subS [c] a = decide (c ∈ a) := by
  unfold subS
  by_cases z : c ∈ a
  · obtain ⟨u, v, rfl, hu⟩ := mem_first z
    rw [findAt_split v 0 hu]
    simp
  · rw [findAt_no 0 z]
    simp [z]
/-! ### rows put together -/
theorem behind_app : ∀ (u q : List Nat), (∀ c ∈ u, c ∈ q) → q ≠ [] → behind (u ++ q) = behind q ∧ went (u ++ q) = went q
  | [], q, _, _ => ⟨rfl, rfl⟩
  | c :: u, q, h, hq => by
    have z : c ∈ u ++ q := List.mem_append_right _ (h c (.head _))
    rw [List.cons_append, behind, went, if_pos z, if_pos z]
    exact behind_app u q (fun d hd => h d (.tail _ hd)) hq
theorem ahead_app (q u : List Nat) (h : ∀ c ∈ u, c ∈ q) (hq : q ≠ []) : ahead (q ++ u) = ahead q ∧ came (q ++ u) = came q := by
  have := behind_app u.reverse q.reverse (fun c hc => by simpa using h c (by simpa using hc)) (by simpa using hq)
  unfold ahead came
  rw [List.reverse_append, this.1, this.2]
  exact ⟨rfl, rfl⟩
def dpF : Fm → Nat
  | .nil => 0
  | .node a _ _ b => max (dpF a) (dpF b) + 1
theorem dpF_le : ∀ (m : Nat) (p : List Nat), nl p ≤ m → dpF (form p) ≤ m
  | 0, p, h => by
    have hp : p = [] := by
      cases p with
      | nil => rfl
      | cons c r =>
        have := nl_behind (p := c :: r) (by simp)
        omega
    subst hp
    rw [form_nil, dpF]
    omega
  | m + 1, p, h => by
    by_cases hp : p = []
    · subst hp; rw [form_nil, dpF]; omega
    · have na := nl_ahead hp
      have nb := nl_behind hp
      have h1 := dpF_le m (ahead p) (by omega)
      have h2 := dpF_le m (behind p) (by omega)
      rw [form_node hp, dpF]
      omega
theorem Flat.closed {h : Hc} (f : Flat h) : h.all (belowC h.length) = true := List.all_eq_true.mpr fun c hc => belowC_mono (Nat.zero_le _) (f c hc)
end Dn

set_option Elab.async false
set_option linter.all false
set_option maxRecDepth 100000
set_option maxHeartbeats 4000000
/-! plans and forms: what the defs give -/
namespace Dn
open PySem L2
section
variable {fs : List MFn} {gl : List Dv} {X : Ix}
theorem adds_ok {h : Hc} (a b : List Nat) (z : a.length + b.length ≤ SZ) : binD .add (.str a) (.str b) h = .ok (.str (a ++ b)) h := bin_adds z
theorem aug_str (s : List Nat) : augD .add (.str s) = true := rfl
theorem ex_augs {cl : Nat → List Dv → Hc → Res Dv} {s : Env1} {h h1 : Hc} {i : Nat} {op : BOp} {m : ME} {x y z : Dv} (hi : s[i]? = some (some x)) (ha : augD op x = true) (e : ev cl gl m s h = .ok y h1) (b : binD op x y h1 = .ok z h1) : ex cl gl (.aug i op m) s h = .ok (.next (s.set i (some z))) h1 := by
  rw [ex_aug, hi]
  simp only [ha, if_true, e, Res.bind_ok, b]
theorem letters_ok (hf : fs[X.letters_of]? = some (F_letters_of X)) (k : Nat) (p : List Nat) (h : Hc) (hn : nl p < 64) : callF fs gl (k + 1) X.letters_of [.str p] h = .ok (.str (signs p)) h := by
  rw [callF_in hf rfl]
  have e1 : biD .sset [.str p] h = .ok (.lst ((signs p).map chD)) h := by simp only [biD, if_pos (show (signs p).length < 64 from hn)]
  have jn := join1_ok (h := h) (cs := signs p) (by unfold SZ; unfold nl at hn; omega)
  have tl := @trim_len h.length (.str (signs p)) h rfl
  simp only [F_letters_of, B_letters_of, startD, List.map_cons, List.map_nil, List.replicate, List.length_cons, List.length_nil, Nat.reduceAdd, Nat.reduceSub, List.cons_append, List.nil_append]
  simp -implicitDefEqProofs only [exs_cons, seqF, exs_nil, ex_asg, ex_par, ex_seti, ex_aug, ex_expr, ex_ret, ex_retn, ex_ite, ex_forr, ex_whil, ex_pass, ex_brk, ex_cont, ev_var, ev_cst, ev_glb, ev_bin, ev_cmp, ev_chain, ev_isn, ev_neg, ev_not, ev_bop, ev_ite, ev_tup, ev_lst, ev_new, ev_idx, ev_sl, ev_rev, ev_bi, ev_bi1, ev_mt, ev_call, ev_comp, ev_frz, evs_nil, evs_cons, evB_one, evB_cons, evO_none, evO_some, optF_int, evC_none, evC_some, evI_seq, evI_range1, evI_range2, evI_enum, evI_zip, rngF_int, rngF2_int, enuF_str, enuF_lst, permD, List.getElem?_cons_zero, List.getElem?_cons_succ, List.cons_append, List.nil_append, List.append_nil, List.set_cons_zero, List.set_cons_succ, Res.bind_ok, Res.calm_ok, tg_name, tg_tup1, tg_tup2, tg_tup3, tg_tup4, compF_ap, bodyF_ap, wipeD, List.length_cons, List.length_nil, List.zip_cons_cons, List.zip_nil_right, List.foldl_cons, List.foldl_nil, if_true, if_false, Bool.false_eq_true, Bool.true_eq_false, truth_bl, truth_str, truth_int, truth_lst, truth_tup, truth_non, Bool.not_true, Bool.not_false, beq_self_eq_true, Nat.zero_add, Nat.reduceAdd, Nat.reduceSub, SZ0, SZ1, SZ2, SZ3, SZ4, SZ5, SZ6, SZ7, SZ8, bin_add, bin_sub, cmp_lt, cmp_le, cmp_gt, cmp_ge, cmp_eqi, cmp_nei, cmp_eqs, cmp_nes, cmp_eqb, cmp_neb, cmp_inns, cmp_nins, bi_int, bi_intb, bi_abs, bi_lens, bi_lent, bi_lenl, seqD_str, seqD_tup, seqD_lst, rev_str, neg_int, endR, beq_tt, beq_ff, beq_tf, beq_ft, Bool.and_true, Bool.and_false, Bool.true_and, Bool.false_and, Bool.or_true, Bool.or_false, Bool.true_or, Bool.false_or, e1, mtOk_join, jn, tl]
theorem news_ok (hf : fs[X.news]? = some (F_news X)) (k : Nat) (p : List Nat) (h : Hc) (hp : p.length < SZ) : callF fs gl (k + 1) X.news [.str p] h = .ok (.str (newsL p)) h := by
  rw [callF_in hf rfl]
  have loop : ∀ (r acc : List Nat) (j : Option Dv), acc.length + r.length < SZ → ∃ j', forL (bodyF (callF fs gl k) gl (.name 2) (B_news_L1 X)) (r.map chD) [some (.str p), some (.str acc), j] h = .ok (.next [some (.str p), some (.str (r.foldl nstep acc)), j']) h := by
    intro r
    induction r with
    | nil => intro acc j _; exact ⟨j, rfl⟩
    | cons c r ih =>
      intro acc j hl
      simp only [List.length_cons] at hl
      have hl2 : (nstep acc c).length ≤ acc.length + 1 := by unfold nstep; split <;> simp
      obtain ⟨j', e⟩ := ih (nstep acc c) (some (chD c)) (by omega)
      refine ⟨j', ?_⟩
      rw [List.map_cons, forL]
      have step : bodyF (callF fs gl k) gl (.name 2) (B_news_L1 X) (chD c) [some (.str p), some (.str acc), j] h = .ok (.next [some (.str p), some (.str (nstep acc c)), some (chD c)]) h := by
        by_cases z : c ∈ acc
        · simp -implicitDefEqProofs only [B_news_L1, exs_cons, seqF, exs_nil, ex_asg, ex_par, ex_seti, ex_aug, ex_expr, ex_ret, ex_retn, ex_ite, ex_forr, ex_whil, ex_pass, ex_brk, ex_cont, ev_var, ev_cst, ev_glb, ev_bin, ev_cmp, ev_chain, ev_isn, ev_neg, ev_not, ev_bop, ev_ite, ev_tup, ev_lst, ev_new, ev_idx, ev_sl, ev_rev, ev_bi, ev_bi1, ev_mt, ev_call, ev_comp, ev_frz, evs_nil, evs_cons, evB_one, evB_cons, evO_none, evO_some, optF_int, evC_none, evC_some, evI_seq, evI_range1, evI_range2, evI_enum, evI_zip, rngF_int, rngF2_int, enuF_str, enuF_lst, permD, List.getElem?_cons_zero, List.getElem?_cons_succ, List.cons_append, List.nil_append, List.append_nil, List.set_cons_zero, List.set_cons_succ, Res.bind_ok, Res.calm_ok, tg_name, tg_tup1, tg_tup2, tg_tup3, tg_tup4, compF_ap, bodyF_ap, wipeD, List.length_cons, List.length_nil, List.zip_cons_cons, List.zip_nil_right, List.foldl_cons, List.foldl_nil, if_true, if_false, Bool.false_eq_true, Bool.true_eq_false, truth_bl, truth_str, truth_int, truth_lst, truth_tup, truth_non, Bool.not_true, Bool.not_false, beq_self_eq_true, Nat.zero_add, Nat.reduceAdd, Nat.reduceSub, SZ0, SZ1, SZ2, SZ3, SZ4, SZ5, SZ6, SZ7, SZ8, bin_add, bin_sub, cmp_lt, cmp_le, cmp_gt, cmp_ge, cmp_eqi, cmp_nei, cmp_eqs, cmp_nes, cmp_eqb, cmp_neb, cmp_inns, cmp_nins, bi_int, bi_intb, bi_abs, bi_lens, bi_lent, bi_lenl, seqD_str, seqD_tup, seqD_lst, rev_str, neg_int, endR, beq_tt, beq_ff, beq_tf, beq_ft, Bool.and_true, Bool.and_false, Bool.true_and, Bool.false_and, Bool.or_true, Bool.or_false, Bool.true_or, Bool.false_or, sub1, z, decide_true, nstep]
        · have b := adds_ok (h := h) acc [c] (by simp; omega)
          simp -implicitDefEqProofs only [B_news_L1, exs_cons, seqF, exs_nil, ex_asg, ex_par, ex_seti, ex_aug, ex_expr, ex_ret, ex_retn, ex_ite, ex_forr, ex_whil, ex_pass, ex_brk, ex_cont, ev_var, ev_cst, ev_glb, ev_bin, ev_cmp, ev_chain, ev_isn, ev_neg, ev_not, ev_bop, ev_ite, ev_tup, ev_lst, ev_new, ev_idx, ev_sl, ev_rev, ev_bi, ev_bi1, ev_mt, ev_call, ev_comp, ev_frz, evs_nil, evs_cons, evB_one, evB_cons, evO_none, evO_some, optF_int, evC_none, evC_some, evI_seq, evI_range1, evI_range2, evI_enum, evI_zip, rngF_int, rngF2_int, enuF_str, enuF_lst, permD, List.getElem?_cons_zero, List.getElem?_cons_succ, List.cons_append, List.nil_append, List.append_nil, List.set_cons_zero, List.set_cons_succ, Res.bind_ok, Res.calm_ok, tg_name, tg_tup1, tg_tup2, tg_tup3, tg_tup4, compF_ap, bodyF_ap, wipeD, List.length_cons, List.length_nil, List.zip_cons_cons, List.zip_nil_right, List.foldl_cons, List.foldl_nil, if_true, if_false, Bool.false_eq_true, Bool.true_eq_false, truth_bl, truth_str, truth_int, truth_lst, truth_tup, truth_non, Bool.not_true, Bool.not_false, beq_self_eq_true, Nat.zero_add, Nat.reduceAdd, Nat.reduceSub, SZ0, SZ1, SZ2, SZ3, SZ4, SZ5, SZ6, SZ7, SZ8, bin_add, bin_sub, cmp_lt, cmp_le, cmp_gt, cmp_ge, cmp_eqi, cmp_nei, cmp_eqs, cmp_nes, cmp_eqb, cmp_neb, cmp_inns, cmp_nins, bi_int, bi_intb, bi_abs, bi_lens, bi_lent, bi_lenl, seqD_str, seqD_tup, seqD_lst, rev_str, neg_int, endR, beq_tt, beq_ff, beq_tf, beq_ft, Bool.and_true, Bool.and_false, Bool.true_and, Bool.false_and, Bool.or_true, Bool.or_false, Bool.true_or, Bool.false_or, sub1, z, decide_false, aug_str, b, nstep]
      rw [step, Res.bind_ok]
      exact e
  obtain ⟨j', e⟩ := loop p [] none (by simpa using hp)
  have tl := @trim_len h.length (.str (newsL p)) h rfl
  simp only [F_news, B_news, startD, List.map_cons, List.map_nil, List.replicate, List.length_cons, List.length_nil, Nat.reduceAdd, Nat.reduceSub, List.cons_append, List.nil_append]
  simp -implicitDefEqProofs only [exs_cons, seqF, exs_nil, ex_asg, ex_par, ex_seti, ex_aug, ex_expr, ex_ret, ex_retn, ex_ite, ex_forr, ex_whil, ex_pass, ex_brk, ex_cont, ev_var, ev_cst, ev_glb, ev_bin, ev_cmp, ev_chain, ev_isn, ev_neg, ev_not, ev_bop, ev_ite, ev_tup, ev_lst, ev_new, ev_idx, ev_sl, ev_rev, ev_bi, ev_bi1, ev_mt, ev_call, ev_comp, ev_frz, evs_nil, evs_cons, evB_one, evB_cons, evO_none, evO_some, optF_int, evC_none, evC_some, evI_seq, evI_range1, evI_range2, evI_enum, evI_zip, rngF_int, rngF2_int, enuF_str, enuF_lst, permD, List.getElem?_cons_zero, List.getElem?_cons_succ, List.cons_append, List.nil_append, List.append_nil, List.set_cons_zero, List.set_cons_succ, Res.bind_ok, Res.calm_ok, tg_name, tg_tup1, tg_tup2, tg_tup3, tg_tup4, compF_ap, bodyF_ap, wipeD, List.length_cons, List.length_nil, List.zip_cons_cons, List.zip_nil_right, List.foldl_cons, List.foldl_nil, if_true, if_false, Bool.false_eq_true, Bool.true_eq_false, truth_bl, truth_str, truth_int, truth_lst, truth_tup, truth_non, Bool.not_true, Bool.not_false, beq_self_eq_true, Nat.zero_add, Nat.reduceAdd, Nat.reduceSub, SZ0, SZ1, SZ2, SZ3, SZ4, SZ5, SZ6, SZ7, SZ8, bin_add, bin_sub, cmp_lt, cmp_le, cmp_gt, cmp_ge, cmp_eqi, cmp_nei, cmp_eqs, cmp_nes, cmp_eqb, cmp_neb, cmp_inns, cmp_nins, bi_int, bi_intb, bi_abs, bi_lens, bi_lent, bi_lenl, seqD_str, seqD_tup, seqD_lst, rev_str, neg_int, endR, beq_tt, beq_ff, beq_tf, beq_ft, Bool.and_true, Bool.and_false, Bool.true_and, Bool.false_and, Bool.or_true, Bool.or_false, Bool.true_or, Bool.false_or, e]
  exact tl
theorem gones_ok (hf : fs[X.gones]? = some (F_gones X)) (hn : fs[X.news]? = some (F_news X)) (k : Nat) (p : List Nat) (h : Hc) (hp : p.length < SZ) : callF fs gl (k + 2) X.gones [.str p] h = .ok (.str (gonesL p)) h := by
  rw [callF_in hf rfl]
  have e := news_ok (gl := gl) hn k p.reverse h (by simpa using hp)
  have tl := @trim_len h.length (.str (gonesL p)) h rfl
  simp only [F_gones, B_gones, startD, List.map_cons, List.map_nil, List.replicate, List.length_cons, List.length_nil, Nat.reduceAdd, Nat.reduceSub, List.cons_append, List.nil_append]
  simp -implicitDefEqProofs only [exs_cons, seqF, exs_nil, ex_asg, ex_par, ex_seti, ex_aug, ex_expr, ex_ret, ex_retn, ex_ite, ex_forr, ex_whil, ex_pass, ex_brk, ex_cont, ev_var, ev_cst, ev_glb, ev_bin, ev_cmp, ev_chain, ev_isn, ev_neg, ev_not, ev_bop, ev_ite, ev_tup, ev_lst, ev_new, ev_idx, ev_sl, ev_rev, ev_bi, ev_bi1, ev_mt, ev_call, ev_comp, ev_frz, evs_nil, evs_cons, evB_one, evB_cons, evO_none, evO_some, optF_int, evC_none, evC_some, evI_seq, evI_range1, evI_range2, evI_enum, evI_zip, rngF_int, rngF2_int, enuF_str, enuF_lst, permD, List.getElem?_cons_zero, List.getElem?_cons_succ, List.cons_append, List.nil_append, List.append_nil, List.set_cons_zero, List.set_cons_succ, Res.bind_ok, Res.calm_ok, tg_name, tg_tup1, tg_tup2, tg_tup3, tg_tup4, compF_ap, bodyF_ap, wipeD, List.length_cons, List.length_nil, List.zip_cons_cons, List.zip_nil_right, List.foldl_cons, List.foldl_nil, if_true, if_false, Bool.false_eq_true, Bool.true_eq_false, truth_bl, truth_str, truth_int, truth_lst, truth_tup, truth_non, Bool.not_true, Bool.not_false, beq_self_eq_true, Nat.zero_add, Nat.reduceAdd, Nat.reduceSub, SZ0, SZ1, SZ2, SZ3, SZ4, SZ5, SZ6, SZ7, SZ8, bin_add, bin_sub, cmp_lt, cmp_le, cmp_gt, cmp_ge, cmp_eqi, cmp_nei, cmp_eqs, cmp_nes, cmp_eqb, cmp_neb, cmp_inns, cmp_nins, bi_int, bi_intb, bi_abs, bi_lens, bi_lent, bi_lenl, seqD_str, seqD_tup, seqD_lst, rev_str, neg_int, endR, beq_tt, beq_ff, beq_tf, beq_ft, Bool.and_true, Bool.and_false, Bool.true_and, Bool.false_and, Bool.or_true, Bool.or_false, Bool.true_or, Bool.false_or, e]
  exact tl
theorem some_ok (hf : fs[X.check_some]? = some (F_check_some X)) (k : Nat) (p : List Nat) (h : Hc) (hp : p ≠ []) : callF fs gl (k + 1) X.check_some [.str p] h = .ok .non h := by
  rw [callF_in hf rfl]
  have d : (p == ([] : List Nat)) = false := by simpa using hp
  have tl := @trim_len h.length .non h rfl
  simp only [F_check_some, B_check_some, startD, List.map_cons, List.map_nil, List.replicate, List.length_cons, List.length_nil, Nat.reduceAdd, Nat.reduceSub, List.cons_append, List.nil_append]
  simp -implicitDefEqProofs only [exs_cons, seqF, exs_nil, ex_asg, ex_par, ex_seti, ex_aug, ex_expr, ex_ret, ex_retn, ex_ite, ex_forr, ex_whil, ex_pass, ex_brk, ex_cont, ev_var, ev_cst, ev_glb, ev_bin, ev_cmp, ev_chain, ev_isn, ev_neg, ev_not, ev_bop, ev_ite, ev_tup, ev_lst, ev_new, ev_idx, ev_sl, ev_rev, ev_bi, ev_bi1, ev_mt, ev_call, ev_comp, ev_frz, evs_nil, evs_cons, evB_one, evB_cons, evO_none, evO_some, optF_int, evC_none, evC_some, evI_seq, evI_range1, evI_range2, evI_enum, evI_zip, rngF_int, rngF2_int, enuF_str, enuF_lst, permD, List.getElem?_cons_zero, List.getElem?_cons_succ, List.cons_append, List.nil_append, List.append_nil, List.set_cons_zero, List.set_cons_succ, Res.bind_ok, Res.calm_ok, tg_name, tg_tup1, tg_tup2, tg_tup3, tg_tup4, compF_ap, bodyF_ap, wipeD, List.length_cons, List.length_nil, List.zip_cons_cons, List.zip_nil_right, List.foldl_cons, List.foldl_nil, if_true, if_false, Bool.false_eq_true, Bool.true_eq_false, truth_bl, truth_str, truth_int, truth_lst, truth_tup, truth_non, Bool.not_true, Bool.not_false, beq_self_eq_true, Nat.zero_add, Nat.reduceAdd, Nat.reduceSub, SZ0, SZ1, SZ2, SZ3, SZ4, SZ5, SZ6, SZ7, SZ8, bin_add, bin_sub, cmp_lt, cmp_le, cmp_gt, cmp_ge, cmp_eqi, cmp_nei, cmp_eqs, cmp_nes, cmp_eqb, cmp_neb, cmp_inns, cmp_nins, bi_int, bi_intb, bi_abs, bi_lens, bi_lent, bi_lenl, seqD_str, seqD_tup, seqD_lst, rev_str, neg_int, endR, beq_tt, beq_ff, beq_tf, beq_ft, Bool.and_true, Bool.and_false, Bool.true_and, Bool.false_and, Bool.or_true, Bool.or_false, Bool.true_or, Bool.false_or, d, tl]
theorem idx_lastS {p : List Nat} {c : Nat} {h : Hc} (e : p.getLast? = some c) : idxD (.str p) (.int (-1)) h = .ok (chD c) h := by
  have hp : p ≠ [] := by rintro rfl; cases e
  have hl := List.length_pos_iff.mpr hp
  have : atI p (-1) = some c := by
    unfold atI ixN
    rw [if_neg (by omega), if_pos (by omega)]
    have ej : ((-1 : Int) + (p.length : Int)).toNat = p.length - 1 := by omega
    rw [ej, Option.bind_some, ← e, List.getLast?_eq_getElem?]
  simp only [idxD, dctOf, idxS, atD, this]
theorem idx_headS {p : List Nat} {c : Nat} {h : Hc} (e : p.head? = some c) : idxD (.str p) (.int 0) h = .ok (chD c) h := by
  cases p with
  | nil => cases e
  | cons x p =>
    cases e
    have : atI (c :: p) 0 = some c := atI_nat (k := 0) rfl
    simp only [idxD, dctOf, idxS, atD, this]
theorem mt_find1 {a b : List Nat} {h : Hc} : mtD .find (.str a) [.str b] h = .ok (.int (findS a b)) h := rfl
theorem mt_rfind1 {a b : List Nat} {h : Hc} : mtD .rfind (.str a) [.str b] h = .ok (.int (rfindS a b)) h := rfl
theorem find_came {p : List Nat} (hp : p ≠ []) : findS p [came p] = ((ahead p).length : Int) := by
  obtain ⟨v, e⟩ := split_ahead hp
  conv => lhs; arg 1; rw [e]
  exact find_split (came_not hp)
theorem take_ahead {p : List Nat} (hp : p ≠ []) : p.take (ahead p).length = ahead p := by
  obtain ⟨v, e⟩ := split_ahead hp
  conv => lhs; arg 2; rw [e]
  simp
theorem rfind_went {p : List Nat} (hp : p ≠ []) : ∃ n : Nat, rfindS p [went p] = (n : Int) ∧ p.drop (n + 1) = behind p := by
  obtain ⟨u, e⟩ := split_behind p hp
  refine ⟨u.length, ?_, ?_⟩
  · conv => lhs; arg 1; rw [e]
    exact rfind_split (went_not p hp)
  · conv => lhs; arg 2; rw [e]
    simp
structure HasPlan (fs : List MFn) (X : Ix) : Prop where
  some_ : fs[X.check_some]? = some (F_check_some X)
  news : fs[X.news]? = some (F_news X)
  gones : fs[X.gones]? = some (F_gones X)
  last_new : fs[X.last_new]? = some (F_last_new X)
  first_gone : fs[X.first_gone]? = some (F_first_gone X)
theorem last_new_ok (H : HasPlan fs X) (k : Nat) (p : List Nat) (h : Hc) (hp : p ≠ []) (hl : p.length < SZ) : callF fs gl (k + 2) X.last_new [.str p] h = .ok (.tup [.str (ahead p), chD (came p)]) h := by
  rw [callF_in H.last_new rfl]
  have e1 := some_ok (gl := gl) H.some_ k p h hp
  have e2 := news_ok (gl := gl) H.news k p h hl
  have e3 := idx_lastS (h := h) (newsL_last hp)
  have tl := @trim_len h.length (.tup [.str (ahead p), chD (came p)]) h rfl
  simp only [F_last_new, B_last_new, startD, List.map_cons, List.map_nil, List.replicate, List.length_cons, List.length_nil, Nat.reduceAdd, Nat.reduceSub, List.cons_append, List.nil_append]
  simp -implicitDefEqProofs only [exs_cons, seqF, exs_nil, ex_asg, ex_par, ex_seti, ex_aug, ex_expr, ex_ret, ex_retn, ex_ite, ex_forr, ex_whil, ex_pass, ex_brk, ex_cont, ev_var, ev_cst, ev_glb, ev_bin, ev_cmp, ev_chain, ev_isn, ev_neg, ev_not, ev_bop, ev_ite, ev_tup, ev_lst, ev_new, ev_idx, ev_sl, ev_rev, ev_bi, ev_bi1, ev_mt, ev_call, ev_comp, ev_frz, evs_nil, evs_cons, evB_one, evB_cons, evO_none, evO_some, optF_int, evC_none, evC_some, evI_seq, evI_range1, evI_range2, evI_enum, evI_zip, rngF_int, rngF2_int, enuF_str, enuF_lst, permD, List.getElem?_cons_zero, List.getElem?_cons_succ, List.cons_append, List.nil_append, List.append_nil, List.set_cons_zero, List.set_cons_succ, Res.bind_ok, Res.calm_ok, tg_name, tg_tup1, tg_tup2, tg_tup3, tg_tup4, compF_ap, bodyF_ap, wipeD, List.length_cons, List.length_nil, List.zip_cons_cons, List.zip_nil_right, List.foldl_cons, List.foldl_nil, if_true, if_false, Bool.false_eq_true, Bool.true_eq_false, truth_bl, truth_str, truth_int, truth_lst, truth_tup, truth_non, Bool.not_true, Bool.not_false, beq_self_eq_true, Nat.zero_add, Nat.reduceAdd, Nat.reduceSub, SZ0, SZ1, SZ2, SZ3, SZ4, SZ5, SZ6, SZ7, SZ8, bin_add, bin_sub, cmp_lt, cmp_le, cmp_gt, cmp_ge, cmp_eqi, cmp_nei, cmp_eqs, cmp_nes, cmp_eqb, cmp_neb, cmp_inns, cmp_nins, bi_int, bi_intb, bi_abs, bi_lens, bi_lent, bi_lenl, seqD_str, seqD_tup, seqD_lst, rev_str, neg_int, endR, beq_tt, beq_ff, beq_tf, beq_ft, Bool.and_true, Bool.and_false, Bool.true_and, Bool.false_and, Bool.or_true, Bool.or_false, Bool.true_or, Bool.false_or, e1, e2, e3, mtOk_find, mt_find1, find_came hp, sls_take, take_ahead hp, tl]
theorem first_gone_ok (H : HasPlan fs X) (k : Nat) (p : List Nat) (h : Hc) (hp : p ≠ []) (hl : p.length < SZ) : callF fs gl (k + 3) X.first_gone [.str p] h = .ok (.tup [chD (went p), .str (behind p)]) h := by
  rw [callF_in H.first_gone rfl]
  have e1 := some_ok (gl := gl) H.some_ (k + 1) p h hp
  have e2 := gones_ok (gl := gl) H.gones H.news k p h hl
  have e3 := idx_headS (h := h) (gonesL_first hp)
  obtain ⟨n, r1, r2⟩ := rfind_went hp
  have tl := @trim_len h.length (.tup [chD (went p), .str (behind p)]) h rfl
  simp only [F_first_gone, B_first_gone, startD, List.map_cons, List.map_nil, List.replicate, List.length_cons, List.length_nil, Nat.reduceAdd, Nat.reduceSub, List.cons_append, List.nil_append]
  simp -implicitDefEqProofs only [exs_cons, seqF, exs_nil, ex_asg, ex_par, ex_seti, ex_aug, ex_expr, ex_ret, ex_retn, ex_ite, ex_forr, ex_whil, ex_pass, ex_brk, ex_cont, ev_var, ev_cst, ev_glb, ev_bin, ev_cmp, ev_chain, ev_isn, ev_neg, ev_not, ev_bop, ev_ite, ev_tup, ev_lst, ev_new, ev_idx, ev_sl, ev_rev, ev_bi, ev_bi1, ev_mt, ev_call, ev_comp, ev_frz, evs_nil, evs_cons, evB_one, evB_cons, evO_none, evO_some, optF_int, evC_none, evC_some, evI_seq, evI_range1, evI_range2, evI_enum, evI_zip, rngF_int, rngF2_int, enuF_str, enuF_lst, permD, List.getElem?_cons_zero, List.getElem?_cons_succ, List.cons_append, List.nil_append, List.append_nil, List.set_cons_zero, List.set_cons_succ, Res.bind_ok, Res.calm_ok, tg_name, tg_tup1, tg_tup2, tg_tup3, tg_tup4, compF_ap, bodyF_ap, wipeD, List.length_cons, List.length_nil, List.zip_cons_cons, List.zip_nil_right, List.foldl_cons, List.foldl_nil, if_true, if_false, Bool.false_eq_true, Bool.true_eq_false, truth_bl, truth_str, truth_int, truth_lst, truth_tup, truth_non, Bool.not_true, Bool.not_false, beq_self_eq_true, Nat.zero_add, Nat.reduceAdd, Nat.reduceSub, SZ0, SZ1, SZ2, SZ3, SZ4, SZ5, SZ6, SZ7, SZ8, bin_add, bin_sub, cmp_lt, cmp_le, cmp_gt, cmp_ge, cmp_eqi, cmp_nei, cmp_eqs, cmp_nes, cmp_eqb, cmp_neb, cmp_inns, cmp_nins, bi_int, bi_intb, bi_abs, bi_lens, bi_lent, bi_lenl, seqD_str, seqD_tup, seqD_lst, rev_str, neg_int, endR, beq_tt, beq_ff, beq_tf, beq_ft, Bool.and_true, Bool.and_false, Bool.true_and, Bool.false_and, Bool.or_true, Bool.or_false, Bool.true_or, Bool.false_or, e1, e2, e3, mtOk_rfind, mt_rfind1, r1, sls_drop1, r2, tl]
/-! ### forms -/
def fmD : Fm → Dv
  | .nil => .tup []
  | .node a x y b => .tup [fmD a, chD x, chD y, fmD b]
theorem fmD_below : ∀ f : Fm, belowD 0 (fmD f) = true
  | .nil => rfl
  | .node a x y b => by simp only [fmD, belowD, belowDs, fmD_below a, fmD_below b]; rfl
theorem dp_fmD : ∀ f : Fm, dp (fmD f) = dpF f + 1
  | .nil => rfl
  | .node a x y b => by simp only [fmD, dp, dps, dp_fmD a, dp_fmD b, dpF]; omega
theorem dp_form {p : List Nat} (h : nl p ≤ 8) : dp (fmD (form p)) ≤ 9 := by
  rw [dp_fmD]
  have := dpF_le 8 p h
  omega
theorem wf_fmD : ∀ f : Fm, wf (fmD f) = true
  | .nil => rfl
  | .node a x y b => by simp only [fmD, wf, wfs, wf_fmD a, wf_fmD b]; rfl
structure HasForm (fs : List MFn) (X : Ix) : Prop extends HasPlan fs X where
  form_by : fs[X.form_by]? = some (F_form_by X)
/-- what the memo keeps is right -/
def Memo (kvs : List (Ky × Dv)) : Prop := ∀ q d, getY (.str q) kvs = some d → d = fmD (form q)
theorem beqK_str (a b : List Nat) : beqK (.str a) (.str b) = (a == b) := rfl
theorem beqK_self (k : Ky) : beqK k k = true := by cases k <;> simp [beqK]
theorem getY_put (k j : Ky) (v : Dv) : ∀ kvs : List (Ky × Dv), getY j (putY k v kvs) = if beqK k j then some v else getY j kvs := by
  intro kvs
  have map : ∀ l : List (Ky × Dv), (getY k l).isSome = true → getY j (l.map fun p => if beqK p.1 k then (p.1, v) else p) = if beqK k j then some v else getY j l := by
    intro l
    induction l with
    | nil => intro h; cases h
    | cons p l ih =>
      intro h
      obtain ⟨q, w⟩ := p
      rw [getY] at h
      by_cases z : beqK q k = true
      · have ek : q = k := by
          cases q <;> cases k <;> simp_all [beqK]
        subst ek
        simp only [List.map_cons, if_pos z, getY]
        by_cases z2 : beqK q j = true
        · rw [if_pos z2, if_pos z2]
        · rw [if_neg z2, if_neg z2, if_neg z2]
          by_cases z3 : (getY q l).isSome = true
          · rw [ih z3, if_neg z2]
          · -- no such key further on
            have : ∀ m : List (Ky × Dv), (getY q m).isSome ≠ true → m.map (fun p => if beqK p.1 q then (p.1, v) else p) = m := by
              intro m
              induction m with
              | nil => intro _; rfl
              | cons r m ihm =>
                intro hm
                obtain ⟨r1, r2⟩ := r
                rw [getY] at hm
                by_cases z4 : beqK r1 q = true
                · rw [if_pos z4] at hm; simp at hm
                · rw [if_neg z4] at hm
                  simp only [List.map_cons, if_neg z4, ihm hm]
            rw [this l z3]
      · rw [if_neg z] at h
        simp only [List.map_cons, if_neg z, getY]
        by_cases z2 : beqK q j = true
        · have : ¬ beqK k j = true := fun w => z (by
            cases q <;> cases k <;> cases j <;> simp_all [beqK])
          rw [if_pos z2, if_neg this, if_pos z2]
        · rw [if_neg z2, if_neg z2, ih h]
  have app : ∀ l : List (Ky × Dv), getY k l = none → getY j (l ++ [(k, v)]) = if beqK k j then some v else getY j l := by
    intro l
    induction l with
    | nil => intro _; rfl
    | cons p l ih =>
      intro h
      obtain ⟨q, w⟩ := p
      rw [getY] at h
      by_cases z : beqK q k = true
      · rw [if_pos z] at h; cases h
      · rw [if_neg z] at h
        rw [List.cons_append, getY, getY, ih h]
        by_cases z2 : beqK q j = true
        · have : ¬ beqK k j = true := fun w => z (by
            cases q <;> cases k <;> cases j <;> simp_all [beqK])
          rw [if_pos z2, if_neg this, if_pos z2]
        · rw [if_neg z2, if_neg z2]
  unfold putY
  by_cases z : (getY k kvs).isSome = true
  · rw [if_pos z]; exact map kvs z
  · rw [if_neg z]
    exact app kvs (by simpa using z)
theorem putY_len (k : Ky) (v : Dv) (kvs : List (Ky × Dv)) : (putY k v kvs).length ≤ kvs.length + 1 := by
  unfold putY
  split <;> simp
theorem Memo.nil : Memo [] := fun q d e => by cases e
theorem Memo.put {kvs : List (Ky × Dv)} (m : Memo kvs) (p : List Nat) : Memo (putY (.str p) (fmD (form p)) kvs) := fun q d e => by
  rw [getY_put, beqK_str] at e
  by_cases z : (p == q) = true
  · rw [if_pos z] at e
    cases e
    rw [eq_of_beq z]
  · rw [if_neg z] at e
    exact m q d e
theorem dct_loc {h : Hc} {n : Nat} {kvs : List (Ky × Dv)} (e : h[n]? = some (.dct kvs)) : dctOf h (.loc n) = some kvs := by simp only [dctOf, e]
theorem nin_dct {h : Hc} {n : Nat} {kvs : List (Ky × Dv)} {p : List Nat} (e : h[n]? = some (.dct kvs)) : cmpD .nin (.str p) (.loc n) h = .ok (.bl (!(getY (.str p) kvs).isSome)) h := by
  simp only [cmpD, dct_loc e, kyOf]
theorem idx_dct {h : Hc} {n : Nat} {kvs : List (Ky × Dv)} {p : List Nat} {d : Dv} (e : h[n]? = some (.dct kvs)) (g : getY (.str p) kvs = some d) : idxD (.loc n) (.str p) h = .ok d h := by
  simp only [idxD, dct_loc e, kyOf, g]
theorem set_dct {h : Hc} {n : Nat} {kvs : List (Ky × Dv)} {p : List Nat} {d : Dv} (e : h[n]? = some (.dct kvs)) (z : kvs.length + 1 ≤ SZ) : setD (.loc n) (.str p) d h = .ok () (h.set n (.dct (putY (.str p) d kvs))) := by
  simp only [setD, dct_loc e, kyOf, if_pos (SZok_iff.mpr z)]
theorem form_by_ok (H : HasForm fs X) : ∀ (m k : Nat) (p : List Nat) (h : Hc) (n : Nat) (kvs : List (Ky × Dv)), nl p ≤ m → p.length < SZ → h[n]? = some (.dct kvs) → Memo kvs → kvs.length + 2 ^ m ≤ SZ →
    ∃ kvs', callF fs gl (k + m + 4) X.form_by [.str p, .loc n] h = .ok (fmD (form p)) (h.set n (.dct kvs')) ∧ Memo kvs' ∧ kvs'.length + 1 ≤ kvs.length + 2 ^ m := by
  intro m
  induction m with
  | zero =>
    intro k p h n kvs hm hl hn mm hz
    have hp : p = [] := by
      cases p with
      | nil => rfl
      | cons c r =>
        have := nl_behind (p := c :: r) (by simp)
        omega
    subst hp
    refine ⟨kvs, ?_, mm, by omega⟩
    have es : h.set n (.dct kvs) = h := by
      apply List.ext_getElem?
      intro i
      by_cases z : n = i
      · subst z; rw [List.getElem?_set_self (List.getElem?_eq_some_iff.mp hn).1, hn]
      · rw [List.getElem?_set_ne z]
    rw [es, callF_in H.form_by rfl]
    have d : (([] : List Nat) == ([] : List Nat)) = true := rfl
    have tl := @trim_len h.length (.tup []) h rfl
    simp only [F_form_by, B_form_by, startD, List.map_cons, List.map_nil, List.replicate, List.length_cons, List.length_nil, Nat.reduceAdd, Nat.reduceSub, List.cons_append, List.nil_append]
    simp -implicitDefEqProofs only [exs_cons, seqF, exs_nil, ex_asg, ex_par, ex_seti, ex_aug, ex_expr, ex_ret, ex_retn, ex_ite, ex_forr, ex_whil, ex_pass, ex_brk, ex_cont, ev_var, ev_cst, ev_glb, ev_bin, ev_cmp, ev_chain, ev_isn, ev_neg, ev_not, ev_bop, ev_ite, ev_tup, ev_lst, ev_new, ev_idx, ev_sl, ev_rev, ev_bi, ev_bi1, ev_mt, ev_call, ev_comp, ev_frz, evs_nil, evs_cons, evB_one, evB_cons, evO_none, evO_some, optF_int, evC_none, evC_some, evI_seq, evI_range1, evI_range2, evI_enum, evI_zip, rngF_int, rngF2_int, enuF_str, enuF_lst, permD, List.getElem?_cons_zero, List.getElem?_cons_succ, List.cons_append, List.nil_append, List.append_nil, List.set_cons_zero, List.set_cons_succ, Res.bind_ok, Res.calm_ok, tg_name, tg_tup1, tg_tup2, tg_tup3, tg_tup4, compF_ap, bodyF_ap, wipeD, List.length_cons, List.length_nil, List.zip_cons_cons, List.zip_nil_right, List.foldl_cons, List.foldl_nil, if_true, if_false, Bool.false_eq_true, Bool.true_eq_false, truth_bl, truth_str, truth_int, truth_lst, truth_tup, truth_non, Bool.not_true, Bool.not_false, beq_self_eq_true, Nat.zero_add, Nat.reduceAdd, Nat.reduceSub, SZ0, SZ1, SZ2, SZ3, SZ4, SZ5, SZ6, SZ7, SZ8, bin_add, bin_sub, cmp_lt, cmp_le, cmp_gt, cmp_ge, cmp_eqi, cmp_nei, cmp_eqs, cmp_nes, cmp_eqb, cmp_neb, cmp_inns, cmp_nins, bi_int, bi_intb, bi_abs, bi_lens, bi_lent, bi_lenl, seqD_str, seqD_tup, seqD_lst, rev_str, neg_int, endR, beq_tt, beq_ff, beq_tf, beq_ft, Bool.and_true, Bool.and_false, Bool.true_and, Bool.false_and, Bool.or_true, Bool.or_false, Bool.true_or, Bool.false_or, d]
    rw [form_nil]
    exact tl
  | succ m ih =>
    intro k p h n kvs hm hl hn mm hz
    have hlt := (List.getElem?_eq_some_iff.mp hn).1
    by_cases hp : p = []
    · subst hp
      refine ⟨kvs, ?_, mm, by have := Nat.one_le_two_pow (n := m + 1); omega⟩
      have es : h.set n (.dct kvs) = h := by
        apply List.ext_getElem?
        intro i
        by_cases z : n = i
        · subst z; rw [List.getElem?_set_self hlt, hn]
        · rw [List.getElem?_set_ne z]
      rw [es, callF_in H.form_by rfl]
      have d : (([] : List Nat) == ([] : List Nat)) = true := rfl
      have tl := @trim_len h.length (.tup []) h rfl
      simp only [F_form_by, B_form_by, startD, List.map_cons, List.map_nil, List.replicate, List.length_cons, List.length_nil, Nat.reduceAdd, Nat.reduceSub, List.cons_append, List.nil_append]
      simp -implicitDefEqProofs only [exs_cons, seqF, exs_nil, ex_asg, ex_par, ex_seti, ex_aug, ex_expr, ex_ret, ex_retn, ex_ite, ex_forr, ex_whil, ex_pass, ex_brk, ex_cont, ev_var, ev_cst, ev_glb, ev_bin, ev_cmp, ev_chain, ev_isn, ev_neg, ev_not, ev_bop, ev_ite, ev_tup, ev_lst, ev_new, ev_idx, ev_sl, ev_rev, ev_bi, ev_bi1, ev_mt, ev_call, ev_comp, ev_frz, evs_nil, evs_cons, evB_one, evB_cons, evO_none, evO_some, optF_int, evC_none, evC_some, evI_seq, evI_range1, evI_range2, evI_enum, evI_zip, rngF_int, rngF2_int, enuF_str, enuF_lst, permD, List.getElem?_cons_zero, List.getElem?_cons_succ, List.cons_append, List.nil_append, List.append_nil, List.set_cons_zero, List.set_cons_succ, Res.bind_ok, Res.calm_ok, tg_name, tg_tup1, tg_tup2, tg_tup3, tg_tup4, compF_ap, bodyF_ap, wipeD, List.length_cons, List.length_nil, List.zip_cons_cons, List.zip_nil_right, List.foldl_cons, List.foldl_nil, if_true, if_false, Bool.false_eq_true, Bool.true_eq_false, truth_bl, truth_str, truth_int, truth_lst, truth_tup, truth_non, Bool.not_true, Bool.not_false, beq_self_eq_true, Nat.zero_add, Nat.reduceAdd, Nat.reduceSub, SZ0, SZ1, SZ2, SZ3, SZ4, SZ5, SZ6, SZ7, SZ8, bin_add, bin_sub, cmp_lt, cmp_le, cmp_gt, cmp_ge, cmp_eqi, cmp_nei, cmp_eqs, cmp_nes, cmp_eqb, cmp_neb, cmp_inns, cmp_nins, bi_int, bi_intb, bi_abs, bi_lens, bi_lent, bi_lenl, seqD_str, seqD_tup, seqD_lst, rev_str, neg_int, endR, beq_tt, beq_ff, beq_tf, beq_ft, Bool.and_true, Bool.and_false, Bool.true_and, Bool.false_and, Bool.or_true, Bool.or_false, Bool.true_or, Bool.false_or, d]
      rw [form_nil]
      exact tl
    · have d : (p == ([] : List Nat)) = false := by simpa using hp
      cases q : getY (.str p) kvs with
      | some w =>
        have ew := mm p w q
        subst ew
        refine ⟨kvs, ?_, mm, by have := Nat.one_le_two_pow (n := m + 1); omega⟩
        have es : h.set n (.dct kvs) = h := by
          apply List.ext_getElem?
          intro i
          by_cases z : n = i
          · subst z; rw [List.getElem?_set_self hlt, hn]
          · rw [List.getElem?_set_ne z]
        rw [es, callF_in H.form_by rfl]
        have tl := @trim_len h.length (fmD (form p)) h rfl
        have c1 := nin_dct (p := p) hn
        rw [q] at c1
        simp only [F_form_by, B_form_by, startD, List.map_cons, List.map_nil, List.replicate, List.length_cons, List.length_nil, Nat.reduceAdd, Nat.reduceSub, List.cons_append, List.nil_append]
        simp -implicitDefEqProofs only [exs_cons, seqF, exs_nil, ex_asg, ex_par, ex_seti, ex_aug, ex_expr, ex_ret, ex_retn, ex_ite, ex_forr, ex_whil, ex_pass, ex_brk, ex_cont, ev_var, ev_cst, ev_glb, ev_bin, ev_cmp, ev_chain, ev_isn, ev_neg, ev_not, ev_bop, ev_ite, ev_tup, ev_lst, ev_new, ev_idx, ev_sl, ev_rev, ev_bi, ev_bi1, ev_mt, ev_call, ev_comp, ev_frz, evs_nil, evs_cons, evB_one, evB_cons, evO_none, evO_some, optF_int, evC_none, evC_some, evI_seq, evI_range1, evI_range2, evI_enum, evI_zip, rngF_int, rngF2_int, enuF_str, enuF_lst, permD, List.getElem?_cons_zero, List.getElem?_cons_succ, List.cons_append, List.nil_append, List.append_nil, List.set_cons_zero, List.set_cons_succ, Res.bind_ok, Res.calm_ok, tg_name, tg_tup1, tg_tup2, tg_tup3, tg_tup4, compF_ap, bodyF_ap, wipeD, List.length_cons, List.length_nil, List.zip_cons_cons, List.zip_nil_right, List.foldl_cons, List.foldl_nil, if_true, if_false, Bool.false_eq_true, Bool.true_eq_false, truth_bl, truth_str, truth_int, truth_lst, truth_tup, truth_non, Bool.not_true, Bool.not_false, beq_self_eq_true, Nat.zero_add, Nat.reduceAdd, Nat.reduceSub, SZ0, SZ1, SZ2, SZ3, SZ4, SZ5, SZ6, SZ7, SZ8, bin_add, bin_sub, cmp_lt, cmp_le, cmp_gt, cmp_ge, cmp_eqi, cmp_nei, cmp_eqs, cmp_nes, cmp_eqb, cmp_neb, cmp_inns, cmp_nins, bi_int, bi_intb, bi_abs, bi_lens, bi_lent, bi_lenl, seqD_str, seqD_tup, seqD_lst, rev_str, neg_int, endR, beq_tt, beq_ff, beq_tf, beq_ft, Bool.and_true, Bool.and_false, Bool.true_and, Bool.false_and, Bool.or_true, Bool.or_false, Bool.true_or, Bool.false_or, d, c1, Option.isSome_some, idx_dct hn q, tl]
      | none =>
        have e2 : 2 ^ (m + 1) = 2 * 2 ^ m := by rw [Nat.pow_succ]; omega
        have one := Nat.one_le_two_pow (n := m)
        have na := nl_ahead hp
        have nb := nl_behind hp
        have la := ahead_len hp
        have lb := behind_len hp
        have f1 := last_new_ok (gl := gl) H.toHasPlan (k + m + 2) p h hp hl
        have f2 := first_gone_ok (gl := gl) H.toHasPlan (k + m + 1) p h hp hl
        obtain ⟨kv1, g1, m1, s1⟩ := ih k (ahead p) h n kvs (by omega) (by omega) hn mm (by omega)
        have hn1 : (h.set n (.dct kv1))[n]? = some (.dct kv1) := get_set hn
        obtain ⟨kv2, g2, m2, s2⟩ := ih k (behind p) _ n kv1 (by omega) (by omega) hn1 m1 (by omega)
        rw [List.set_set] at g2
        have hn2 : (h.set n (.dct kv2))[n]? = some (.dct kv2) := get_set hn
        have st := set_dct (p := p) (d := fmD (form p)) hn2 (by omega)
        rw [List.set_set] at st
        have hn3 : (h.set n (.dct (putY (.str p) (fmD (form p)) kv2)))[n]? = some (.dct (putY (.str p) (fmD (form p)) kv2)) := get_set hn
        have gt := idx_dct (p := p) (d := fmD (form p)) hn3 (by rw [getY_put, beqK_self]; rfl)
        refine ⟨putY (.str p) (fmD (form p)) kv2, ?_, m2.put p, by have := putY_len (.str p) (fmD (form p)) kv2; omega⟩
        have ek : k + (m + 1) + 4 = k + m + 4 + 1 := by omega
        rw [ek, callF_in H.form_by rfl]
        have c1 := nin_dct (p := p) hn
        rw [q] at c1
        have ef : Dv.tup [fmD (form (ahead p)), chD (came p), chD (went p), fmD (form (behind p))] = fmD (form p) := by rw [form_node hp]; rfl
        have tl := @trim_len h.length (fmD (form p)) (h.set n (.dct (putY (.str p) (fmD (form p)) kv2))) (by simp)
        simp only [F_form_by, B_form_by, startD, List.map_cons, List.map_nil, List.replicate, List.length_cons, List.length_nil, Nat.reduceAdd, Nat.reduceSub, List.cons_append, List.nil_append]
        simp -implicitDefEqProofs only [exs_cons, seqF, exs_nil, ex_asg, ex_par, ex_seti, ex_aug, ex_expr, ex_ret, ex_retn, ex_ite, ex_forr, ex_whil, ex_pass, ex_brk, ex_cont, ev_var, ev_cst, ev_glb, ev_bin, ev_cmp, ev_chain, ev_isn, ev_neg, ev_not, ev_bop, ev_ite, ev_tup, ev_lst, ev_new, ev_idx, ev_sl, ev_rev, ev_bi, ev_bi1, ev_mt, ev_call, ev_comp, ev_frz, evs_nil, evs_cons, evB_one, evB_cons, evO_none, evO_some, optF_int, evC_none, evC_some, evI_seq, evI_range1, evI_range2, evI_enum, evI_zip, rngF_int, rngF2_int, enuF_str, enuF_lst, permD, List.getElem?_cons_zero, List.getElem?_cons_succ, List.cons_append, List.nil_append, List.append_nil, List.set_cons_zero, List.set_cons_succ, Res.bind_ok, Res.calm_ok, tg_name, tg_tup1, tg_tup2, tg_tup3, tg_tup4, compF_ap, bodyF_ap, wipeD, List.length_cons, List.length_nil, List.zip_cons_cons, List.zip_nil_right, List.foldl_cons, List.foldl_nil, if_true, if_false, Bool.false_eq_true, Bool.true_eq_false, truth_bl, truth_str, truth_int, truth_lst, truth_tup, truth_non, Bool.not_true, Bool.not_false, beq_self_eq_true, Nat.zero_add, Nat.reduceAdd, Nat.reduceSub, SZ0, SZ1, SZ2, SZ3, SZ4, SZ5, SZ6, SZ7, SZ8, bin_add, bin_sub, cmp_lt, cmp_le, cmp_gt, cmp_ge, cmp_eqi, cmp_nei, cmp_eqs, cmp_nes, cmp_eqb, cmp_neb, cmp_inns, cmp_nins, bi_int, bi_intb, bi_abs, bi_lens, bi_lent, bi_lenl, seqD_str, seqD_tup, seqD_lst, rev_str, neg_int, endR, beq_tt, beq_ff, beq_tf, beq_ft, Bool.and_true, Bool.and_false, Bool.true_and, Bool.false_and, Bool.or_true, Bool.or_false, Bool.true_or, Bool.false_or, d, c1, Option.isSome_none, f1, f2, g1, g2, ef, st, gt, tl]
structure HasFormOf (fs : List MFn) (X : Ix) : Prop extends HasForm fs X where
  form_of : fs[X.form_of]? = some (F_form_of X)
theorem form_of_ok (H : HasFormOf fs X) (k : Nat) (p : List Nat) (h : Hc) (hm : nl p ≤ 8) (hl : p.length < SZ) (hc : h.all (belowC h.length) = true) : callF fs gl (k + 13) X.form_of [.str p] h = .ok (fmD (form p)) h := by
  rw [callF_in H.form_of rfl]
  have hn : (h ++ [Cell.dct []])[h.length]? = some (.dct []) := by simp
  obtain ⟨kvs, e, _, _⟩ := form_by_ok (gl := gl) H.toHasForm 8 k p (h ++ [.dct []]) h.length [] hm hl hn .nil (by decide)
  have es : (h ++ [Cell.dct []]).set h.length (.dct kvs) = h ++ [.dct kvs] := by simp
  rw [es] at e
  have tl : trimR h.length (fmD (form p)) (h ++ [.dct kvs]) = .ok (fmD (form p)) h := trim_app (belowD_mono (Nat.zero_le _) (fmD_below _)) hc
  have dn : ∀ s, ev (callF fs gl (k + 12)) gl .dnew s h = .ok (.loc h.length) (h ++ [.dct []]) := fun s => by rw [ev]
  simp only [F_form_of, B_form_of, startD, List.map_cons, List.map_nil, List.replicate, List.length_cons, List.length_nil, Nat.reduceAdd, Nat.reduceSub, List.cons_append, List.nil_append]
  simp -implicitDefEqProofs only [exs_cons, seqF, exs_nil, ex_asg, ex_par, ex_seti, ex_aug, ex_expr, ex_ret, ex_retn, ex_ite, ex_forr, ex_whil, ex_pass, ex_brk, ex_cont, ev_var, ev_cst, ev_glb, ev_bin, ev_cmp, ev_chain, ev_isn, ev_neg, ev_not, ev_bop, ev_ite, ev_tup, ev_lst, ev_new, ev_idx, ev_sl, ev_rev, ev_bi, ev_bi1, ev_mt, ev_call, ev_comp, ev_frz, evs_nil, evs_cons, evB_one, evB_cons, evO_none, evO_some, optF_int, evC_none, evC_some, evI_seq, evI_range1, evI_range2, evI_enum, evI_zip, rngF_int, rngF2_int, enuF_str, enuF_lst, permD, List.getElem?_cons_zero, List.getElem?_cons_succ, List.cons_append, List.nil_append, List.append_nil, List.set_cons_zero, List.set_cons_succ, Res.bind_ok, Res.calm_ok, tg_name, tg_tup1, tg_tup2, tg_tup3, tg_tup4, compF_ap, bodyF_ap, wipeD, List.length_cons, List.length_nil, List.zip_cons_cons, List.zip_nil_right, List.foldl_cons, List.foldl_nil, if_true, if_false, Bool.false_eq_true, Bool.true_eq_false, truth_bl, truth_str, truth_int, truth_lst, truth_tup, truth_non, Bool.not_true, Bool.not_false, beq_self_eq_true, Nat.zero_add, Nat.reduceAdd, Nat.reduceSub, SZ0, SZ1, SZ2, SZ3, SZ4, SZ5, SZ6, SZ7, SZ8, bin_add, bin_sub, cmp_lt, cmp_le, cmp_gt, cmp_ge, cmp_eqi, cmp_nei, cmp_eqs, cmp_nes, cmp_eqb, cmp_neb, cmp_inns, cmp_nins, bi_int, bi_intb, bi_abs, bi_lens, bi_lent, bi_lenl, seqD_str, seqD_tup, seqD_lst, rev_str, neg_int, endR, beq_tt, beq_ff, beq_tf, beq_ft, Bool.and_true, Bool.and_false, Bool.true_and, Bool.false_and, Bool.or_true, Bool.or_false, Bool.true_or, Bool.false_or, dn, e, tl]
/-! ### the laws' own -/
theorem sset_ok {p : List Nat} {h : Hc} (hn : nl p < 64) : biD .sset [.str p] h = .ok (.lst ((signs p).map chD)) h := by simp only [biD, if_pos (show (signs p).length < 64 from hn)]
theorem find_le {p : List Nat} {c : Nat} (hc : c ∈ p) : findS p [c] ≤ ((ahead p).length : Int) := by
  have hp : p ≠ [] := by rintro rfl; cases hc
  rcases mem_ahead p c hc with rfl | z
  · rw [find_came hp]; omega
  · obtain ⟨v, e⟩ := split_ahead hp
    obtain ⟨u, w, e2, hu⟩ := mem_first z
    have hl : u.length < (ahead p).length := by rw [e2]; simp
    have e3 : p = u ++ c :: (w ++ came p :: v) := by
      conv => lhs; rw [e, e2]
      simp
    conv => lhs; arg 1; rw [e3]
    rw [find_split hu]
    omega
theorem intsOf_ints : ∀ ns : List Int, intsOf (ns.map .int) = some ns
  | [] => rfl
  | n :: ns => by simp [intsOf, intsOf_ints ns]
theorem max_ok {h : Hc} {ns : List Int} {m : Int} (hm : m ∈ ns) (hle : ∀ y ∈ ns, y ≤ m) : biD .max [.lst (ns.map .int)] h = .ok (.int m) h := by
  cases ns with
  | nil => cases hm
  | cons n ns =>
    have e := intsOf_ints (n :: ns)
    simp only [biD, lstOf, Option.bind_some, e]
    rw [← fold_max ns n m hm hle]
structure HasLForm (fs : List MFn) (X : Ix) : Prop where
  last_new : fs[X.l_last_new]? = some (F_l_last_new X)
  form : fs[X.l_form]? = some (F_l_form X)
theorem l_last_new_ok (H : fs[X.l_last_new]? = some (F_l_last_new X)) (k : Nat) (p : List Nat) (h : Hc) (hp : p ≠ []) (hn : nl p < 64) : callF fs gl (k + 1) X.l_last_new [.str p] h = .ok (.tup [.str (ahead p), chD (came p)]) h := by
  rw [callF_in H rfl]
  have e1 := sset_ok (h := h) hn
  have cm : compL (compF (callF fs gl k) gl (.name 2) [2] .none (.mt .find (.var 0) (.cons (.var 2) .nil)) [some (.str p), none, none]) ((signs p).map chD) h = .ok ((signs p).map fun c => .int (findS p [c])) h := by
    refine comp_map chD (fun c => Dv.int (findS p [c])) (signs p) fun c hc => ?_
    simp -implicitDefEqProofs only [exs_cons, seqF, exs_nil, ex_asg, ex_par, ex_seti, ex_aug, ex_expr, ex_ret, ex_retn, ex_ite, ex_forr, ex_whil, ex_pass, ex_brk, ex_cont, ev_var, ev_cst, ev_glb, ev_bin, ev_cmp, ev_chain, ev_isn, ev_neg, ev_not, ev_bop, ev_ite, ev_tup, ev_lst, ev_new, ev_idx, ev_sl, ev_rev, ev_bi, ev_bi1, ev_mt, ev_call, ev_comp, ev_frz, evs_nil, evs_cons, evB_one, evB_cons, evO_none, evO_some, optF_int, evC_none, evC_some, evI_seq, evI_range1, evI_range2, evI_enum, evI_zip, rngF_int, rngF2_int, enuF_str, enuF_lst, permD, List.getElem?_cons_zero, List.getElem?_cons_succ, List.cons_append, List.nil_append, List.append_nil, List.set_cons_zero, List.set_cons_succ, Res.bind_ok, Res.calm_ok, tg_name, tg_tup1, tg_tup2, tg_tup3, tg_tup4, compF_ap, bodyF_ap, wipeD, List.length_cons, List.length_nil, List.zip_cons_cons, List.zip_nil_right, List.foldl_cons, List.foldl_nil, if_true, if_false, Bool.false_eq_true, Bool.true_eq_false, truth_bl, truth_str, truth_int, truth_lst, truth_tup, truth_non, Bool.not_true, Bool.not_false, beq_self_eq_true, Nat.zero_add, Nat.reduceAdd, Nat.reduceSub, SZ0, SZ1, SZ2, SZ3, SZ4, SZ5, SZ6, SZ7, SZ8, bin_add, bin_sub, cmp_lt, cmp_le, cmp_gt, cmp_ge, cmp_eqi, cmp_nei, cmp_eqs, cmp_nes, cmp_eqb, cmp_neb, cmp_inns, cmp_nins, bi_int, bi_intb, bi_abs, bi_lens, bi_lent, bi_lenl, seqD_str, seqD_tup, seqD_lst, rev_str, neg_int, endR, beq_tt, beq_ff, beq_tf, beq_ft, Bool.and_true, Bool.and_false, Bool.true_and, Bool.false_and, Bool.or_true, Bool.or_false, Bool.true_or, Bool.false_or, mtOk_find, mt_find1]
  have e2 : ((signs p).map fun c => Dv.int (findS p [c])) = ((signs p).map fun c => findS p [c]).map .int := by rw [List.map_map]; rfl
  rw [e2] at cm
  have mx := max_ok (h := h) (ns := (signs p).map fun c => findS p [c]) (m := ((ahead p).length : Int)) (List.mem_map.mpr ⟨came p, (signs_mem _ _).mpr (came_mem hp), find_came hp⟩) (by
    intro y hy
    obtain ⟨c, hc, rfl⟩ := List.mem_map.mp hy
    exact find_le ((signs_mem _ _).mp hc))
  have ix : idxD (.str p) (.int ((ahead p).length : Int)) h = .ok (chD (came p)) h := by
    have : atI p ((ahead p).length : Int) = some (came p) := atI_nat (by
      obtain ⟨v, e⟩ := split_ahead hp
      conv => lhs; arg 1; rw [e]
      simp)
    simp only [idxD, dctOf, idxS, atD, this]
  have sz : SZok (((signs p).map fun c => findS p [c]).map Dv.int).length = true := SZok_iff.mpr (by simp; unfold SZ; unfold nl at hn; omega)
  have tl := @trim_len h.length (.tup [.str (ahead p), chD (came p)]) h rfl
  simp only [F_l_last_new, B_l_last_new, startD, List.map_cons, List.map_nil, List.replicate, List.length_cons, List.length_nil, Nat.reduceAdd, Nat.reduceSub, List.cons_append, List.nil_append]
  simp -implicitDefEqProofs only [exs_cons, seqF, exs_nil, ex_asg, ex_par, ex_seti, ex_aug, ex_expr, ex_ret, ex_retn, ex_ite, ex_forr, ex_whil, ex_pass, ex_brk, ex_cont, ev_var, ev_cst, ev_glb, ev_bin, ev_cmp, ev_chain, ev_isn, ev_neg, ev_not, ev_bop, ev_ite, ev_tup, ev_lst, ev_new, ev_idx, ev_sl, ev_rev, ev_bi, ev_bi1, ev_mt, ev_call, ev_comp, ev_frz, evs_nil, evs_cons, evB_one, evB_cons, evO_none, evO_some, optF_int, evC_none, evC_some, evI_seq, evI_range1, evI_range2, evI_enum, evI_zip, rngF_int, rngF2_int, enuF_str, enuF_lst, permD, List.getElem?_cons_zero, List.getElem?_cons_succ, List.cons_append, List.nil_append, List.append_nil, List.set_cons_zero, List.set_cons_succ, Res.bind_ok, Res.calm_ok, tg_name, tg_tup1, tg_tup2, tg_tup3, tg_tup4, compF_ap, bodyF_ap, wipeD, List.length_cons, List.length_nil, List.zip_cons_cons, List.zip_nil_right, List.foldl_cons, List.foldl_nil, if_true, if_false, Bool.false_eq_true, Bool.true_eq_false, truth_bl, truth_str, truth_int, truth_lst, truth_tup, truth_non, Bool.not_true, Bool.not_false, beq_self_eq_true, Nat.zero_add, Nat.reduceAdd, Nat.reduceSub, SZ0, SZ1, SZ2, SZ3, SZ4, SZ5, SZ6, SZ7, SZ8, bin_add, bin_sub, cmp_lt, cmp_le, cmp_gt, cmp_ge, cmp_eqi, cmp_nei, cmp_eqs, cmp_nes, cmp_eqb, cmp_neb, cmp_inns, cmp_nins, bi_int, bi_intb, bi_abs, bi_lens, bi_lent, bi_lenl, seqD_str, seqD_tup, seqD_lst, rev_str, neg_int, endR, beq_tt, beq_ff, beq_tf, beq_ft, Bool.and_true, Bool.and_false, Bool.true_and, Bool.false_and, Bool.or_true, Bool.or_false, Bool.true_or, Bool.false_or, e1, cm, sz, mx, sls_take, take_ahead hp, ix, tl]
theorem idx_t0 {h : Hc} (a b : Dv) : idxD (.tup [a, b]) (.int 0) h = .ok a h := rfl
theorem idx_t1 {h : Hc} (a b : Dv) : idxD (.tup [a, b]) (.int 1) h = .ok b h := rfl
theorem l_form_ok (H : HasLForm fs X) : ∀ (m k : Nat) (p : List Nat) (h : Hc), nl p ≤ m → m ≤ 8 → callF fs gl (k + m + 2) X.l_form [.str p] h = .ok (fmD (form p)) h := by
  intro m
  induction m with
  | zero =>
    intro k p h hm h8
    have hp : p = [] := by
      cases p with
      | nil => rfl
      | cons c r =>
        have := nl_behind (p := c :: r) (by simp)
        omega
    subst hp
    rw [callF_in H.form rfl]
    have d : (([] : List Nat) == ([] : List Nat)) = true := rfl
    have tl := @trim_len h.length (.tup []) h rfl
    simp only [F_l_form, B_l_form, startD, List.map_cons, List.map_nil, List.replicate, List.length_cons, List.length_nil, Nat.reduceAdd, Nat.reduceSub, List.cons_append, List.nil_append]
    simp -implicitDefEqProofs only [exs_cons, seqF, exs_nil, ex_asg, ex_par, ex_seti, ex_aug, ex_expr, ex_ret, ex_retn, ex_ite, ex_forr, ex_whil, ex_pass, ex_brk, ex_cont, ev_var, ev_cst, ev_glb, ev_bin, ev_cmp, ev_chain, ev_isn, ev_neg, ev_not, ev_bop, ev_ite, ev_tup, ev_lst, ev_new, ev_idx, ev_sl, ev_rev, ev_bi, ev_bi1, ev_mt, ev_call, ev_comp, ev_frz, evs_nil, evs_cons, evB_one, evB_cons, evO_none, evO_some, optF_int, evC_none, evC_some, evI_seq, evI_range1, evI_range2, evI_enum, evI_zip, rngF_int, rngF2_int, enuF_str, enuF_lst, permD, List.getElem?_cons_zero, List.getElem?_cons_succ, List.cons_append, List.nil_append, List.append_nil, List.set_cons_zero, List.set_cons_succ, Res.bind_ok, Res.calm_ok, tg_name, tg_tup1, tg_tup2, tg_tup3, tg_tup4, compF_ap, bodyF_ap, wipeD, List.length_cons, List.length_nil, List.zip_cons_cons, List.zip_nil_right, List.foldl_cons, List.foldl_nil, if_true, if_false, Bool.false_eq_true, Bool.true_eq_false, truth_bl, truth_str, truth_int, truth_lst, truth_tup, truth_non, Bool.not_true, Bool.not_false, beq_self_eq_true, Nat.zero_add, Nat.reduceAdd, Nat.reduceSub, SZ0, SZ1, SZ2, SZ3, SZ4, SZ5, SZ6, SZ7, SZ8, bin_add, bin_sub, cmp_lt, cmp_le, cmp_gt, cmp_ge, cmp_eqi, cmp_nei, cmp_eqs, cmp_nes, cmp_eqb, cmp_neb, cmp_inns, cmp_nins, bi_int, bi_intb, bi_abs, bi_lens, bi_lent, bi_lenl, seqD_str, seqD_tup, seqD_lst, rev_str, neg_int, endR, beq_tt, beq_ff, beq_tf, beq_ft, Bool.and_true, Bool.and_false, Bool.true_and, Bool.false_and, Bool.or_true, Bool.or_false, Bool.true_or, Bool.false_or, d]
    rw [form_nil]
    exact tl
  | succ m ih =>
    intro k p h hm h8
    by_cases hp : p = []
    · subst hp
      rw [callF_in H.form rfl]
      have d : (([] : List Nat) == ([] : List Nat)) = true := rfl
      have tl := @trim_len h.length (.tup []) h rfl
      simp only [F_l_form, B_l_form, startD, List.map_cons, List.map_nil, List.replicate, List.length_cons, List.length_nil, Nat.reduceAdd, Nat.reduceSub, List.cons_append, List.nil_append]
      simp -implicitDefEqProofs only [exs_cons, seqF, exs_nil, ex_asg, ex_par, ex_seti, ex_aug, ex_expr, ex_ret, ex_retn, ex_ite, ex_forr, ex_whil, ex_pass, ex_brk, ex_cont, ev_var, ev_cst, ev_glb, ev_bin, ev_cmp, ev_chain, ev_isn, ev_neg, ev_not, ev_bop, ev_ite, ev_tup, ev_lst, ev_new, ev_idx, ev_sl, ev_rev, ev_bi, ev_bi1, ev_mt, ev_call, ev_comp, ev_frz, evs_nil, evs_cons, evB_one, evB_cons, evO_none, evO_some, optF_int, evC_none, evC_some, evI_seq, evI_range1, evI_range2, evI_enum, evI_zip, rngF_int, rngF2_int, enuF_str, enuF_lst, permD, List.getElem?_cons_zero, List.getElem?_cons_succ, List.cons_append, List.nil_append, List.append_nil, List.set_cons_zero, List.set_cons_succ, Res.bind_ok, Res.calm_ok, tg_name, tg_tup1, tg_tup2, tg_tup3, tg_tup4, compF_ap, bodyF_ap, wipeD, List.length_cons, List.length_nil, List.zip_cons_cons, List.zip_nil_right, List.foldl_cons, List.foldl_nil, if_true, if_false, Bool.false_eq_true, Bool.true_eq_false, truth_bl, truth_str, truth_int, truth_lst, truth_tup, truth_non, Bool.not_true, Bool.not_false, beq_self_eq_true, Nat.zero_add, Nat.reduceAdd, Nat.reduceSub, SZ0, SZ1, SZ2, SZ3, SZ4, SZ5, SZ6, SZ7, SZ8, bin_add, bin_sub, cmp_lt, cmp_le, cmp_gt, cmp_ge, cmp_eqi, cmp_nei, cmp_eqs, cmp_nes, cmp_eqb, cmp_neb, cmp_inns, cmp_nins, bi_int, bi_intb, bi_abs, bi_lens, bi_lent, bi_lenl, seqD_str, seqD_tup, seqD_lst, rev_str, neg_int, endR, beq_tt, beq_ff, beq_tf, beq_ft, Bool.and_true, Bool.and_false, Bool.true_and, Bool.false_and, Bool.or_true, Bool.or_false, Bool.true_or, Bool.false_or, d]
      rw [form_nil]
      exact tl
    · have d : (p == ([] : List Nat)) = false := by simpa using hp
      have na := nl_ahead hp
      have nb := nl_behind hp
      have nr : nl p.reverse ≤ nl p := nl_le fun c hc => List.mem_reverse.mp hc
      have f1 := l_last_new_ok (gl := gl) H.last_new (k + m + 1) p h hp (by omega)
      have f2 := l_last_new_ok (gl := gl) H.last_new (k + m + 1) p.reverse h (by simpa using hp) (by omega)
      rw [ahead_rev, came_rev] at f2
      have g1 := ih k (ahead p) h (by omega) (by omega)
      have g2 := ih k (behind p) h (by omega) (by omega)
      have ek : k + (m + 1) + 2 = k + m + 2 + 1 := by omega
      rw [ek, callF_in H.form rfl]
      have ef : Dv.tup [fmD (form (ahead p)), chD (came p), chD (went p), fmD (form (behind p))] = fmD (form p) := by rw [form_node hp]; rfl
      have tl := @trim_len h.length (fmD (form p)) h rfl
      simp only [F_l_form, B_l_form, startD, List.map_cons, List.map_nil, List.replicate, List.length_cons, List.length_nil, Nat.reduceAdd, Nat.reduceSub, List.cons_append, List.nil_append]
      simp -implicitDefEqProofs only [exs_cons, seqF, exs_nil, ex_asg, ex_par, ex_seti, ex_aug, ex_expr, ex_ret, ex_retn, ex_ite, ex_forr, ex_whil, ex_pass, ex_brk, ex_cont, ev_var, ev_cst, ev_glb, ev_bin, ev_cmp, ev_chain, ev_isn, ev_neg, ev_not, ev_bop, ev_ite, ev_tup, ev_lst, ev_new, ev_idx, ev_sl, ev_rev, ev_bi, ev_bi1, ev_mt, ev_call, ev_comp, ev_frz, evs_nil, evs_cons, evB_one, evB_cons, evO_none, evO_some, optF_int, evC_none, evC_some, evI_seq, evI_range1, evI_range2, evI_enum, evI_zip, rngF_int, rngF2_int, enuF_str, enuF_lst, permD, List.getElem?_cons_zero, List.getElem?_cons_succ, List.cons_append, List.nil_append, List.append_nil, List.set_cons_zero, List.set_cons_succ, Res.bind_ok, Res.calm_ok, tg_name, tg_tup1, tg_tup2, tg_tup3, tg_tup4, compF_ap, bodyF_ap, wipeD, List.length_cons, List.length_nil, List.zip_cons_cons, List.zip_nil_right, List.foldl_cons, List.foldl_nil, if_true, if_false, Bool.false_eq_true, Bool.true_eq_false, truth_bl, truth_str, truth_int, truth_lst, truth_tup, truth_non, Bool.not_true, Bool.not_false, beq_self_eq_true, Nat.zero_add, Nat.reduceAdd, Nat.reduceSub, SZ0, SZ1, SZ2, SZ3, SZ4, SZ5, SZ6, SZ7, SZ8, bin_add, bin_sub, cmp_lt, cmp_le, cmp_gt, cmp_ge, cmp_eqi, cmp_nei, cmp_eqs, cmp_nes, cmp_eqb, cmp_neb, cmp_inns, cmp_nins, bi_int, bi_intb, bi_abs, bi_lens, bi_lent, bi_lenl, seqD_str, seqD_tup, seqD_lst, rev_str, neg_int, endR, beq_tt, beq_ff, beq_tf, beq_ft, Bool.and_true, Bool.and_false, Bool.true_and, Bool.false_and, Bool.or_true, Bool.or_false, Bool.true_or, Bool.false_or, d, f1, f2, idx_t0, idx_t1, List.reverse_reverse, g1, g2, ef, tl]
end
end Dn

set_option Elab.async false
set_option linter.all false
set_option maxRecDepth 100000
set_option maxHeartbeats 4000000
/-! backward, without, undoubled -/
namespace Dn
open PySem L2
def bstep (acc : List Nat) (c : Nat) : List Nat := if acc.getLast? = some c then acc else acc ++ [c]
def bareL (p : List Nat) : List Nat := p.foldl bstep []
theorem bareL_snoc (q : List Nat) (c : Nat) : bareL (q ++ [c]) = bstep (bareL q) c := by unfold bareL; rw [List.foldl_append]; rfl
theorem bareL_last (p : List Nat) : (bareL p).getLast? = p.getLast? := by
  induction p using list_snoc with
  | h0 => rfl
  | h1 q c ih =>
    rw [bareL_snoc, bstep]
    split
    · rename_i z; rw [z]; simp
    · simp
theorem bareL_len (p : List Nat) : (bareL p).length ≤ p.length := by
  induction p using list_snoc with
  | h0 => exact Nat.le_refl _
  | h1 q c ih =>
    rw [bareL_snoc, bstep]
    split <;> simp <;> omega
theorem enumL_map : ∀ (p : List Nat) (k : Nat), enumL (k : Int) (p.map chD) = (p.zipIdx k).map fun x => .tup [.int (x.2 : Nat), chD x.1]
  | [], k => rfl
  | c :: p, k => by
    have : (k : Int) + 1 = ((k + 1 : Nat) : Int) := by simp
    rw [List.map_cons, enumL, this, enumL_map p (k + 1), List.zipIdx_cons]
    rfl
def undC (p : List Nat) (x : Nat × Nat) : Bool := x.2 == 0 || !(p[x.2 - 1]? == some x.1)
theorem und_filter (p : List Nat) : ∀ q r : List Nat, p = q ++ r → ((q.zipIdx).filter (undC p)).map (·.1) = bareL q := by
  intro q
  induction q using list_snoc with
  | h0 => intro r _; rfl
  | h1 q c ih =>
    intro r e
    have ih := ih ([c] ++ r) (by rw [e, List.append_assoc])
    rw [List.zipIdx_append, List.filter_append, List.map_append, ih, bareL_snoc, bstep, bareL_last]
    have hz : [c].zipIdx (0 + q.length) = [(c, q.length)] := by simp
    rw [hz]
    by_cases hq : q = []
    · subst hq
      simp [undC]
    · have hl := List.length_pos_iff.mpr hq
      have eg : p[q.length - 1]? = q.getLast? := by
        rw [e, List.append_assoc, List.getElem?_append_left (by omega), List.getLast?_eq_getElem?]
      have n0 : (q.length == 0) = false := by simpa using hq
      by_cases z : q.getLast? = some c
      · rw [if_pos z, List.filter_cons_of_neg (by simp [undC, eg, z, n0])]
        simp
      · rw [if_neg z, List.filter_cons_of_pos (by simp [undC, eg, z])]
        rfl
section
variable {fs : List MFn} {gl : List Dv} {X : Ix}
theorem backward_ok (hf : fs[X.backward]? = some (F_backward X)) (k : Nat) (p : List Nat) (h : Hc) : callF fs gl (k + 1) X.backward [.str p] h = .ok (.str p.reverse) h := by
  rw [callF_in hf rfl]
  have tl := @trim_len h.length (.str p.reverse) h rfl
  simp only [F_backward, B_backward, startD, List.map_cons, List.map_nil, List.replicate, List.length_cons, List.length_nil, Nat.reduceAdd, Nat.reduceSub, List.cons_append, List.nil_append]
  simp -implicitDefEqProofs only [exs_cons, seqF, exs_nil, ex_asg, ex_par, ex_seti, ex_aug, ex_expr, ex_ret, ex_retn, ex_ite, ex_forr, ex_whil, ex_pass, ex_brk, ex_cont, ev_var, ev_cst, ev_glb, ev_bin, ev_cmp, ev_chain, ev_isn, ev_neg, ev_not, ev_bop, ev_ite, ev_tup, ev_lst, ev_new, ev_idx, ev_sl, ev_rev, ev_bi, ev_bi1, ev_mt, ev_call, ev_comp, ev_frz, evs_nil, evs_cons, evB_one, evB_cons, evO_none, evO_some, optF_int, evC_none, evC_some, evI_seq, evI_range1, evI_range2, evI_enum, evI_zip, rngF_int, rngF2_int, enuF_str, enuF_lst, permD, List.getElem?_cons_zero, List.getElem?_cons_succ, List.cons_append, List.nil_append, List.append_nil, List.set_cons_zero, List.set_cons_succ, Res.bind_ok, Res.calm_ok, tg_name, tg_tup1, tg_tup2, tg_tup3, tg_tup4, compF_ap, bodyF_ap, wipeD, List.length_cons, List.length_nil, List.zip_cons_cons, List.zip_nil_right, List.foldl_cons, List.foldl_nil, if_true, if_false, Bool.false_eq_true, Bool.true_eq_false, truth_bl, truth_str, truth_int, truth_lst, truth_tup, truth_non, Bool.not_true, Bool.not_false, beq_self_eq_true, Nat.zero_add, Nat.reduceAdd, Nat.reduceSub, SZ0, SZ1, SZ2, SZ3, SZ4, SZ5, SZ6, SZ7, SZ8, bin_add, bin_sub, cmp_lt, cmp_le, cmp_gt, cmp_ge, cmp_eqi, cmp_nei, cmp_eqs, cmp_nes, cmp_eqb, cmp_neb, cmp_inns, cmp_nins, bi_int, bi_intb, bi_abs, bi_lens, bi_lent, bi_lenl, seqD_str, seqD_tup, seqD_lst, rev_str, neg_int, endR, beq_tt, beq_ff, beq_tf, beq_ft, Bool.and_true, Bool.and_false, Bool.true_and, Bool.false_and, Bool.or_true, Bool.or_false, Bool.true_or, Bool.false_or, tl]
theorem without_ok (hf : fs[X.without]? = some (F_without X)) (k : Nat) (p : List Nat) (c : Nat) (h : Hc) (hl : p.length < SZ) : callF fs gl (k + 1) X.without [.str p, chD c] h = .ok (.str (p.filter fun x => !(x == c))) h := by
  rw [callF_in hf rfl]
  have fl : (p.filter fun x => !(x == c)).length ≤ p.length := List.length_filter_le ..
  have cm : compL (compF (callF fs gl k) gl (.name 2) [2] (.some (.cmp .ne (.var 2) (.var 1))) (.var 2) [some (.str p), some (chD c), none]) (p.map chD) h = .ok ((p.filter fun x => !(x == c)).map chD) h := by
    refine comp_filter chD (fun x => !(x == c)) chD p fun x hx => ?_
    have : ([x] == [c]) = (x == c) := by simp
    simp -implicitDefEqProofs only [exs_cons, seqF, exs_nil, ex_asg, ex_par, ex_seti, ex_aug, ex_expr, ex_ret, ex_retn, ex_ite, ex_forr, ex_whil, ex_pass, ex_brk, ex_cont, ev_var, ev_cst, ev_glb, ev_bin, ev_cmp, ev_chain, ev_isn, ev_neg, ev_not, ev_bop, ev_ite, ev_tup, ev_lst, ev_new, ev_idx, ev_sl, ev_rev, ev_bi, ev_bi1, ev_mt, ev_call, ev_comp, ev_frz, evs_nil, evs_cons, evB_one, evB_cons, evO_none, evO_some, optF_int, evC_none, evC_some, evI_seq, evI_range1, evI_range2, evI_enum, evI_zip, rngF_int, rngF2_int, enuF_str, enuF_lst, permD, List.getElem?_cons_zero, List.getElem?_cons_succ, List.cons_append, List.nil_append, List.append_nil, List.set_cons_zero, List.set_cons_succ, Res.bind_ok, Res.calm_ok, tg_name, tg_tup1, tg_tup2, tg_tup3, tg_tup4, compF_ap, bodyF_ap, wipeD, List.length_cons, List.length_nil, List.zip_cons_cons, List.zip_nil_right, List.foldl_cons, List.foldl_nil, if_true, if_false, Bool.false_eq_true, Bool.true_eq_false, truth_bl, truth_str, truth_int, truth_lst, truth_tup, truth_non, Bool.not_true, Bool.not_false, beq_self_eq_true, Nat.zero_add, Nat.reduceAdd, Nat.reduceSub, SZ0, SZ1, SZ2, SZ3, SZ4, SZ5, SZ6, SZ7, SZ8, bin_add, bin_sub, cmp_lt, cmp_le, cmp_gt, cmp_ge, cmp_eqi, cmp_nei, cmp_eqs, cmp_nes, cmp_eqb, cmp_neb, cmp_inns, cmp_nins, bi_int, bi_intb, bi_abs, bi_lens, bi_lent, bi_lenl, seqD_str, seqD_tup, seqD_lst, rev_str, neg_int, endR, beq_tt, beq_ff, beq_tf, beq_ft, Bool.and_true, Bool.and_false, Bool.true_and, Bool.false_and, Bool.or_true, Bool.or_false, Bool.true_or, Bool.false_or, this]
    cases x == c <;> rfl
  have jn := join1_ok (h := h) (cs := p.filter fun x => !(x == c)) (by omega)
  have tl := @trim_len h.length (.str (p.filter fun x => !(x == c))) h rfl
  simp only [F_without, B_without, startD, List.map_cons, List.map_nil, List.replicate, List.length_cons, List.length_nil, Nat.reduceAdd, Nat.reduceSub, List.cons_append, List.nil_append]
  simp -implicitDefEqProofs only [exs_cons, seqF, exs_nil, ex_asg, ex_par, ex_seti, ex_aug, ex_expr, ex_ret, ex_retn, ex_ite, ex_forr, ex_whil, ex_pass, ex_brk, ex_cont, ev_var, ev_cst, ev_glb, ev_bin, ev_cmp, ev_chain, ev_isn, ev_neg, ev_not, ev_bop, ev_ite, ev_tup, ev_lst, ev_new, ev_idx, ev_sl, ev_rev, ev_bi, ev_bi1, ev_mt, ev_call, ev_comp, ev_frz, evs_nil, evs_cons, evB_one, evB_cons, evO_none, evO_some, optF_int, evC_none, evC_some, evI_seq, evI_range1, evI_range2, evI_enum, evI_zip, rngF_int, rngF2_int, enuF_str, enuF_lst, permD, List.getElem?_cons_zero, List.getElem?_cons_succ, List.cons_append, List.nil_append, List.append_nil, List.set_cons_zero, List.set_cons_succ, Res.bind_ok, Res.calm_ok, tg_name, tg_tup1, tg_tup2, tg_tup3, tg_tup4, compF_ap, bodyF_ap, wipeD, List.length_cons, List.length_nil, List.zip_cons_cons, List.zip_nil_right, List.foldl_cons, List.foldl_nil, if_true, if_false, Bool.false_eq_true, Bool.true_eq_false, truth_bl, truth_str, truth_int, truth_lst, truth_tup, truth_non, Bool.not_true, Bool.not_false, beq_self_eq_true, Nat.zero_add, Nat.reduceAdd, Nat.reduceSub, SZ0, SZ1, SZ2, SZ3, SZ4, SZ5, SZ6, SZ7, SZ8, bin_add, bin_sub, cmp_lt, cmp_le, cmp_gt, cmp_ge, cmp_eqi, cmp_nei, cmp_eqs, cmp_nes, cmp_eqb, cmp_neb, cmp_inns, cmp_nins, bi_int, bi_intb, bi_abs, bi_lens, bi_lent, bi_lenl, seqD_str, seqD_tup, seqD_lst, rev_str, neg_int, endR, beq_tt, beq_ff, beq_tf, beq_ft, Bool.and_true, Bool.and_false, Bool.true_and, Bool.false_and, Bool.or_true, Bool.or_false, Bool.true_or, Bool.false_or, cm, SZ_if (show ((p.filter fun x => !(x == c)).map chD).length ≤ SZ by simp only [List.length_map]; omega), mtOk_join, jn, tl]
theorem undoubled_ok (hf : fs[X.undoubled]? = some (F_undoubled X)) (k : Nat) (p : List Nat) (h : Hc) (hl : p.length < SZ) : callF fs gl (k + 1) X.undoubled [.str p] h = .ok (.str (bareL p)) h := by
  rw [callF_in hf rfl]
  have bl := bareL_len p
  have uf := und_filter p p [] (by simp)
  have en : enumL 0 (p.map fun c => Dv.str [c]) = (p.zipIdx 0).map fun x => .tup [.int (x.2 : Nat), chD x.1] := enumL_map p 0
  have cm : compL (compF (callF fs gl k) gl (.tup [1, 2]) [1, 2] (.some (.bop false (.cons (.cmp .eq (.var 1) (.cst (.int 0))) (.cons (.cmp .ne (.idx (.var 0) (.bin .sub (.var 1) (.cst (.int 1)))) (.var 2)) .nil)))) (.var 2) [some (.str p), none, none]) (enumL 0 (p.map fun c => Dv.str [c])) h = .ok ((bareL p).map chD) h := by
    rw [en, ← uf, List.map_map]
    refine comp_filter (fun x : Nat × Nat => .tup [.int (x.2 : Nat), chD x.1]) (undC p) (fun x => chD x.1) p.zipIdx fun x hx => ?_
    obtain ⟨c, i⟩ := x
    have hi := List.mem_zipIdx hx
    by_cases z : i = 0
    · subst z
      have d : (((0 : Nat) : Int) == 0) = true := rfl
      simp -implicitDefEqProofs only [exs_cons, seqF, exs_nil, ex_asg, ex_par, ex_seti, ex_aug, ex_expr, ex_ret, ex_retn, ex_ite, ex_forr, ex_whil, ex_pass, ex_brk, ex_cont, ev_var, ev_cst, ev_glb, ev_bin, ev_cmp, ev_chain, ev_isn, ev_neg, ev_not, ev_bop, ev_ite, ev_tup, ev_lst, ev_new, ev_idx, ev_sl, ev_rev, ev_bi, ev_bi1, ev_mt, ev_call, ev_comp, ev_frz, evs_nil, evs_cons, evB_one, evB_cons, evO_none, evO_some, optF_int, evC_none, evC_some, evI_seq, evI_range1, evI_range2, evI_enum, evI_zip, rngF_int, rngF2_int, enuF_str, enuF_lst, permD, List.getElem?_cons_zero, List.getElem?_cons_succ, List.cons_append, List.nil_append, List.append_nil, List.set_cons_zero, List.set_cons_succ, Res.bind_ok, Res.calm_ok, tg_name, tg_tup1, tg_tup2, tg_tup3, tg_tup4, compF_ap, bodyF_ap, wipeD, List.length_cons, List.length_nil, List.zip_cons_cons, List.zip_nil_right, List.foldl_cons, List.foldl_nil, if_true, if_false, Bool.false_eq_true, Bool.true_eq_false, truth_bl, truth_str, truth_int, truth_lst, truth_tup, truth_non, Bool.not_true, Bool.not_false, beq_self_eq_true, Nat.zero_add, Nat.reduceAdd, Nat.reduceSub, SZ0, SZ1, SZ2, SZ3, SZ4, SZ5, SZ6, SZ7, SZ8, bin_add, bin_sub, cmp_lt, cmp_le, cmp_gt, cmp_ge, cmp_eqi, cmp_nei, cmp_eqs, cmp_nes, cmp_eqb, cmp_neb, cmp_inns, cmp_nins, bi_int, bi_intb, bi_abs, bi_lens, bi_lent, bi_lenl, seqD_str, seqD_tup, seqD_lst, rev_str, neg_int, endR, beq_tt, beq_ff, beq_tf, beq_ft, Bool.and_true, Bool.and_false, Bool.true_and, Bool.false_and, Bool.or_true, Bool.or_false, Bool.true_or, Bool.false_or, d, undC]
    · have d : ((i : Int) == 0) = false := by simpa using z
      have d2 : (i == 0) = false := by simpa using z
      have ei : (i : Int) - 1 = ((i - 1 : Nat) : Int) := by omega
      have hlt : i - 1 < p.length := by omega
      have ix : idxD (.str p) (.int ((i - 1 : Nat) : Int)) h = .ok (chD p[i - 1]) h := by
        simp only [idxD, dctOf, idxS, atD, atI_nat (List.getElem?_eq_getElem hlt)]
      have d3 : ([p[i - 1]] == [c]) = (p[i - 1]? == some c) := by rw [List.getElem?_eq_getElem hlt]; simp
      simp -implicitDefEqProofs only [exs_cons, seqF, exs_nil, ex_asg, ex_par, ex_seti, ex_aug, ex_expr, ex_ret, ex_retn, ex_ite, ex_forr, ex_whil, ex_pass, ex_brk, ex_cont, ev_var, ev_cst, ev_glb, ev_bin, ev_cmp, ev_chain, ev_isn, ev_neg, ev_not, ev_bop, ev_ite, ev_tup, ev_lst, ev_new, ev_idx, ev_sl, ev_rev, ev_bi, ev_bi1, ev_mt, ev_call, ev_comp, ev_frz, evs_nil, evs_cons, evB_one, evB_cons, evO_none, evO_some, optF_int, evC_none, evC_some, evI_seq, evI_range1, evI_range2, evI_enum, evI_zip, rngF_int, rngF2_int, enuF_str, enuF_lst, permD, List.getElem?_cons_zero, List.getElem?_cons_succ, List.cons_append, List.nil_append, List.append_nil, List.set_cons_zero, List.set_cons_succ, Res.bind_ok, Res.calm_ok, tg_name, tg_tup1, tg_tup2, tg_tup3, tg_tup4, compF_ap, bodyF_ap, wipeD, List.length_cons, List.length_nil, List.zip_cons_cons, List.zip_nil_right, List.foldl_cons, List.foldl_nil, if_true, if_false, Bool.false_eq_true, Bool.true_eq_false, truth_bl, truth_str, truth_int, truth_lst, truth_tup, truth_non, Bool.not_true, Bool.not_false, beq_self_eq_true, Nat.zero_add, Nat.reduceAdd, Nat.reduceSub, SZ0, SZ1, SZ2, SZ3, SZ4, SZ5, SZ6, SZ7, SZ8, bin_add, bin_sub, cmp_lt, cmp_le, cmp_gt, cmp_ge, cmp_eqi, cmp_nei, cmp_eqs, cmp_nes, cmp_eqb, cmp_neb, cmp_inns, cmp_nins, bi_int, bi_intb, bi_abs, bi_lens, bi_lent, bi_lenl, seqD_str, seqD_tup, seqD_lst, rev_str, neg_int, endR, beq_tt, beq_ff, beq_tf, beq_ft, Bool.and_true, Bool.and_false, Bool.true_and, Bool.false_and, Bool.or_true, Bool.or_false, Bool.true_or, Bool.false_or, d, ei, ix, d3, undC, d2]
      cases p[i - 1]? == some c <;> rfl
  have jn := join1_ok (h := h) (cs := bareL p) (by omega)
  have tl := @trim_len h.length (.str (bareL p)) h rfl
  simp only [F_undoubled, B_undoubled, startD, List.map_cons, List.map_nil, List.replicate, List.length_cons, List.length_nil, Nat.reduceAdd, Nat.reduceSub, List.cons_append, List.nil_append]
  simp -implicitDefEqProofs only [exs_cons, seqF, exs_nil, ex_asg, ex_par, ex_seti, ex_aug, ex_expr, ex_ret, ex_retn, ex_ite, ex_forr, ex_whil, ex_pass, ex_brk, ex_cont, ev_var, ev_cst, ev_glb, ev_bin, ev_cmp, ev_chain, ev_isn, ev_neg, ev_not, ev_bop, ev_ite, ev_tup, ev_lst, ev_new, ev_idx, ev_sl, ev_rev, ev_bi, ev_bi1, ev_mt, ev_call, ev_comp, ev_frz, evs_nil, evs_cons, evB_one, evB_cons, evO_none, evO_some, optF_int, evC_none, evC_some, evI_seq, evI_range1, evI_range2, evI_enum, evI_zip, rngF_int, rngF2_int, enuF_str, enuF_lst, permD, List.getElem?_cons_zero, List.getElem?_cons_succ, List.cons_append, List.nil_append, List.append_nil, List.set_cons_zero, List.set_cons_succ, Res.bind_ok, Res.calm_ok, tg_name, tg_tup1, tg_tup2, tg_tup3, tg_tup4, compF_ap, bodyF_ap, wipeD, List.length_cons, List.length_nil, List.zip_cons_cons, List.zip_nil_right, List.foldl_cons, List.foldl_nil, if_true, if_false, Bool.false_eq_true, Bool.true_eq_false, truth_bl, truth_str, truth_int, truth_lst, truth_tup, truth_non, Bool.not_true, Bool.not_false, beq_self_eq_true, Nat.zero_add, Nat.reduceAdd, Nat.reduceSub, SZ0, SZ1, SZ2, SZ3, SZ4, SZ5, SZ6, SZ7, SZ8, bin_add, bin_sub, cmp_lt, cmp_le, cmp_gt, cmp_ge, cmp_eqi, cmp_nei, cmp_eqs, cmp_nes, cmp_eqb, cmp_neb, cmp_inns, cmp_nins, bi_int, bi_intb, bi_abs, bi_lens, bi_lent, bi_lenl, seqD_str, seqD_tup, seqD_lst, rev_str, neg_int, endR, beq_tt, beq_ff, beq_tf, beq_ft, Bool.and_true, Bool.and_false, Bool.true_and, Bool.false_and, Bool.or_true, Bool.or_false, Bool.true_or, Bool.false_or, cm, SZ_if (show ((bareL p).map chD).length ≤ SZ by simp only [List.length_map]; omega), mtOk_join, jn, tl]
theorem cut_last (xs : List Nat) : cutD xs (some (-1)) none = xs.getLast?.toList := by
  induction xs using list_snoc with
  | h0 => rfl
  | h1 q c _ =>
    have e : HT.sIx (q ++ [c]).length 0 (some (-1)) = q.length := by
      simp only [HT.sIx, if_pos (show (-1 : Int) < 0 by decide), List.length_append, List.length_cons, List.length_nil]
      omega
    simp only [cutD, e, HT.sIx_none]
    simp
theorem sls_last {h : Hc} (xs : List Nat) : slD (.str xs) (some (-1)) none h = .ok (.str xs.getLast?.toList) h := by
  simp only [slD, cut_last]
end
end Dn

set_option Elab.async false
set_option linter.all false
set_option maxRecDepth 100000
set_option maxHeartbeats 4000000
/-! what a form tells -/
namespace Dn
def memF (c : Nat) : Fm → Prop
  | .nil => False
  | .node a x _ _ => memF c a ∨ c = x
theorem memF_form (c : Nat) : ∀ (n : Nat) (p : List Nat), p.length ≤ n → (memF c (form p) ↔ c ∈ p)
  | n, p, h => by
    by_cases hp : p = []
    · subst hp; rw [form_nil]; simp [memF]
    · cases n with
      | zero => exact absurd (List.length_eq_zero_iff.mp (by omega)) hp
      | succ n =>
        have la := ahead_len hp
        rw [form_node hp, memF, memF_form c n (ahead p) (by omega)]
        constructor
        · rintro (z | rfl)
          · exact ahead_sub p c z
          · exact came_mem hp
        · intro z
          rcases mem_ahead p c z with z | z
          · exact .inr z
          · exact .inl z
theorem form_mem {p q : List Nat} (e : form p = form q) (c : Nat) : c ∈ p ↔ c ∈ q := by
  rw [← memF_form c _ p (Nat.le_refl _), ← memF_form c _ q (Nat.le_refl _), e]
theorem sorted_ext : ∀ {a b : List Nat}, a.Pairwise (· < ·) → b.Pairwise (· < ·) → (∀ c, c ∈ a ↔ c ∈ b) → a = b := fun {a b} ha hb h => by
  have p : a.Perm b := (List.perm_ext_iff_of_nodup (ha.imp fun {x y} z => by omega) (hb.imp fun {x y} z => by omega)).mpr h
  exact List.Perm.eq_of_pairwise (le := (· < ·)) (fun x y _ _ h1 h2 => by omega) ha hb p
theorem signs_ext {p q : List Nat} (h : ∀ c, c ∈ p ↔ c ∈ q) : signs p = signs q := sorted_ext (signs_sorted p) (signs_sorted q) fun c => by rw [signs_mem, signs_mem, h]
theorem form_signs {p q : List Nat} (e : form p = form q) : signs p = signs q := signs_ext (form_mem e)
theorem newsL_app_sub (u v : List Nat) (h : ∀ c ∈ v, c ∈ u) : newsL (u ++ v) = newsL u := by
  induction v using list_snoc with
  | h0 => simp
  | h1 v c ih =>
    rw [← List.append_assoc, newsL_snoc, ih fun d hd => h d (List.mem_append_left _ hd), nstep, if_pos]
    exact (newsL_mem u c).mpr (h c (by simp))
theorem newsL_ahead {p : List Nat} (hp : p ≠ []) : newsL p = newsL (ahead p) ++ [came p] := by
  obtain ⟨v, e⟩ := split_ahead hp
  have e2 : p = (ahead p ++ [came p]) ++ v := by rw [List.append_assoc]; exact e
  have hs : ∀ c ∈ v, c ∈ ahead p ++ [came p] := fun c hc => by
    have : c ∈ p := by rw [e]; simp [hc]
    rcases mem_ahead p c this with z | z
    · rw [z]; simp
    · exact List.mem_append_left _ z
  conv => lhs; rw [e2]
  rw [newsL_app_sub _ _ hs, newsL_snoc, nstep, if_neg]
  exact fun z => came_not hp ((newsL_mem _ _).mp z)
def newsF : Fm → List Nat
  | .nil => []
  | .node a x _ _ => newsF a ++ [x]
theorem newsF_form : ∀ (n : Nat) (p : List Nat), p.length ≤ n → newsF (form p) = newsL p
  | n, p, h => by
    by_cases hp : p = []
    · subst hp; rw [form_nil]; rfl
    · cases n with
      | zero => exact absurd (List.length_eq_zero_iff.mp (by omega)) hp
      | succ n =>
        have la := ahead_len hp
        rw [form_node hp, newsF, newsF_form n (ahead p) (by omega), newsL_ahead hp]
theorem form_news {p q : List Nat} (e : form p = form q) : newsL p = newsL q := by
  rw [← newsF_form _ p (Nat.le_refl _), ← newsF_form _ q (Nat.le_refl _), e]
/-! ### from behind -/
def revF : Fm → Fm
  | .nil => .nil
  | .node a x y b => .node (revF b) y x (revF a)
theorem form_rev : ∀ (n : Nat) (p : List Nat), p.length ≤ n → form p.reverse = revF (form p)
  | n, p, h => by
    by_cases hp : p = []
    · subst hp; rw [List.reverse_nil, form_nil]; rfl
    · cases n with
      | zero => exact absurd (List.length_eq_zero_iff.mp (by omega)) hp
      | succ n =>
        have la := ahead_len hp
        have lb := behind_len hp
        have hr : p.reverse ≠ [] := by simpa using hp
        rw [form_node hp, form_node hr, revF, ahead_rev, came_rev, form_rev n (behind p) (by omega)]
        have e1 : behind p.reverse = (ahead p).reverse := by unfold ahead; rw [List.reverse_reverse]
        have e2 : went p.reverse = came p := rfl
        rw [e1, e2, form_rev n (ahead p) (by omega)]
theorem form_reverse (p : List Nat) : form p.reverse = revF (form p) := form_rev _ p (Nat.le_refl _)
theorem revF_revF : ∀ f, revF (revF f) = f
  | .nil => rfl
  | .node a x y b => by simp only [revF, revF_revF a, revF_revF b]
theorem form_gones {p q : List Nat} (e : form p = form q) : newsL p.reverse = newsL q.reverse := form_news (by rw [form_reverse, form_reverse, e])
/-! ### the first letter, the last letter -/
theorem newsL_head (p : List Nat) : (newsL p).head? = p.head? := by
  induction p using list_snoc with
  | h0 => rfl
  | h1 q c ih =>
    rw [newsL_snoc, nstep]
    by_cases hq : q = []
    · subst hq; rfl
    · rw [List.head?_append, ← ih]
      have hn : newsL q ≠ [] := by
        cases q with
        | nil => exact absurd rfl hq
        | cons d r => exact List.ne_nil_of_mem ((newsL_mem (d :: r) d).mpr (.head _))
      split
      · cases w : newsL q with
        | nil => exact absurd w hn
        | cons y ys => rfl
      · rw [List.head?_append]
theorem form_head {p q : List Nat} (e : form p = form q) : p.head? = q.head? := by rw [← newsL_head p, ← newsL_head q, form_news e]
theorem form_last {p q : List Nat} (e : form p = form q) : p.getLast? = q.getLast? := by
  have := form_head (p := p.reverse) (q := q.reverse) (by rw [form_reverse, form_reverse, e])
  simpa using this
theorem form_take1 {p q : List Nat} (e : form p = form q) : p.take 1 = q.take 1 := by
  have := form_head e
  cases p <;> cases q <;> simp_all
/-- u w u is as u, if w has no other letters -/
theorem form_swallow (p w : List Nat) (h : ∀ c ∈ w, c ∈ p) : form (p ++ w ++ p) = form p := by
  by_cases hp : p = []
  · subst hp
    cases w with
    | nil => rfl
    | cons c w => cases h c (.head _)
  · have b := behind_app (p ++ w) p (fun c hc => by
      rcases List.mem_append.mp hc with z | z
      · exact z
      · exact h c z) hp
    have a := ahead_app p (w ++ p) (fun c hc => by
      rcases List.mem_append.mp hc with z | z
      · exact h c z
      · exact z) hp
    rw [← List.append_assoc] at a
    rw [form_node hp, form_node (p := p ++ w ++ p) (by simp [hp]), a.1, a.2, b.1, b.2]
theorem form_dbl (p : List Nat) : form (p ++ p) = form p := by
  have := form_swallow p [] (fun c hc => by cases hc)
  simpa using this
/-! ### forms by running -/
def memN (c : Nat) : List Nat → Bool
  | [] => false
  | x :: r => match Nat.beq c x with
    | true => true
    | false => memN c r
theorem memN_iff (c : Nat) : ∀ r : List Nat, memN c r = true ↔ c ∈ r
  | [] => by simp [memN]
  | x :: r => by
    rw [memN]
    cases q : Nat.beq c x with
    | true => simp [Nat.eq_of_beq_eq_true q]
    | false =>
      have := Nat.ne_of_beq_eq_false q
      simp [memN_iff c r, this]
def behindB : List Nat → List Nat
  | [] => []
  | c :: r => match memN c r with
    | true => behindB r
    | false => r
def wentB : List Nat → Nat
  | [] => 0
  | c :: r => match memN c r with
    | true => wentB r
    | false => c
theorem behindB_eq : ∀ p, behindB p = behind p
  | [] => rfl
  | c :: r => by
    rw [behindB, behind]
    cases q : memN c r with
    | true => rw [if_pos ((memN_iff c r).mp q)]; exact behindB_eq r
    | false => rw [if_neg fun z => by rw [(memN_iff c r).mpr z] at q; cases q]
theorem wentB_eq : ∀ p, wentB p = went p
  | [] => rfl
  | c :: r => by
    rw [wentB, went]
    cases q : memN c r with
    | true => rw [if_pos ((memN_iff c r).mp q)]; exact wentB_eq r
    | false => rw [if_neg fun z => by rw [(memN_iff c r).mpr z] at q; cases q]
def revB : List Nat → List Nat → List Nat
  | [], a => a
  | c :: r, a => revB r (c :: a)
theorem revB_eq : ∀ p a, revB p a = p.reverse ++ a
  | [], a => rfl
  | c :: r, a => by rw [revB, revB_eq r]; simp
def formB : Nat → List Nat → Fm
  | 0, _ => .nil
  | n + 1, p => match p with
    | [] => .nil
    | c :: r => .node (formB n (revB (behindB (revB (c :: r) [])) [])) (wentB (revB (c :: r) [])) (wentB (c :: r)) (formB n (behindB (c :: r)))
theorem formB_eq : ∀ (n : Nat) (p : List Nat), nl p ≤ n → form p = formB n p
  | 0, p, h => by
    have hp : p = [] := by
      cases p with
      | nil => rfl
      | cons c r =>
        have := nl_behind (p := c :: r) (by simp)
        omega
    subst hp
    rw [form_nil]; rfl
  | n + 1, [], h => by rw [form_nil]; rfl
  | n + 1, c :: r, h => by
    have hp : c :: r ≠ [] := by simp
    have na := nl_ahead hp
    have nb := nl_behind hp
    rw [form_node hp, formB, formB_eq n _ (show nl (ahead (c :: r)) ≤ n by omega), formB_eq n _ (show nl (behind (c :: r)) ≤ n by omega)]
    simp only [behindB_eq, wentB_eq, revB_eq, List.append_nil]
    rfl
def nlB (p : List Nat) : Nat := (newsB p []).length
where newsB : List Nat → List Nat → List Nat
  | [], a => a
  | c :: r, a => match memN c a with
    | true => newsB r a
    | false => newsB r (c :: a)
def beqF : Fm → Fm → Bool
  | .nil, .nil => true
  | .node a x y b, .node c z w d => match beqF a c with
    | true => (match Nat.beq x z with
      | true => (match Nat.beq y w with
        | true => beqF b d
        | false => false)
      | false => false)
    | false => false
  | _, _ => false
theorem beqF_eq : ∀ f g, beqF f g = decide (f = g)
  | .nil, .nil => rfl
  | .nil, .node _ _ _ _ => rfl
  | .node _ _ _ _, .nil => rfl
  | .node a x y b, .node c z w d => by
    rw [beqF, beqF_eq a c, beqF_eq b d]
    by_cases h1 : a = c
    · rw [decide_eq_true h1]
      cases h2 : Nat.beq x z with
      | false => have := Nat.ne_of_beq_eq_false h2; simp [this]
      | true =>
        cases h3 : Nat.beq y w with
        | false => have := Nat.ne_of_beq_eq_false h3; simp [this]
        | true => simp [h1, Nat.eq_of_beq_eq_true h2, Nat.eq_of_beq_eq_true h3]
    · rw [decide_eq_false h1]; simp [h1]
theorem alike_by {p q : List Nat} {b : Bool} (hp : nl p ≤ 8) (hq : nl q ≤ 8) (e : beqF (formB 8 p) (formB 8 q) = b) : decide (form p = form q) = b := by
  rw [← beqF_eq, formB_eq 8 p hp, formB_eq 8 q hq]
  exact e
theorem nl_by {p : List Nat} (h : p.all (fun c => memN c ABC) = true) : nl p ≤ 8 := nl_Pl fun c hc => (memN_iff c ABC).mp (List.all_eq_true.mp h c hc)
end Dn

set_option Elab.async false
set_option linter.all false
set_option maxRecDepth 100000
set_option maxHeartbeats 4000000
/-! alike -/
namespace Dn
open PySem L2
theorem depD_fmD : ∀ f : Fm, depD (fmD f) = some (dpF f + 1)
  | .nil => rfl
  | .node a x y b => by
    have e1 : depD (chD x) = some 0 := rfl
    have e2 : depD (chD y) = some 0 := rfl
    simp only [fmD, depD, depDs, depD_fmD a, depD_fmD b, e1, e2, Option.map_some, dpF]
    congr 1
    omega
theorem nat_beq (x y : Nat) : (x == y) = decide (x = y) := by by_cases h : x = y <;> simp [h]
theorem eqD_fmD : ∀ f g : Fm, eqD (fmD f) (fmD g) = decide (f = g)
  | .nil, .nil => rfl
  | .nil, .node _ _ _ _ => rfl
  | .node _ _ _ _, .nil => rfl
  | .node a x y b, .node c z w d => by
    have e1 : eqD (chD x) (chD z) = decide (x = z) := by simp [eqD]; exact nat_beq _ _
    have e2 : eqD (chD y) (chD w) = decide (y = w) := by simp [eqD]; exact nat_beq _ _
    simp only [fmD, eqD, eqDs, eqD_fmD a c, eqD_fmD b d, e1, e2, Fm.node.injEq]
    by_cases h1 : a = c <;> by_cases h2 : x = z <;> by_cases h3 : y = w <;> by_cases h4 : b = d <;> simp [h1, h2, h3, h4]
theorem plainD_fmD (h : Hc) (f : Fm) : plainD h (fmD f) = fmD f := by cases f <;> rfl
theorem cmp_fmD {h : Hc} {f g : Fm} (hf : dpF f ≤ 50) (hg : dpF g ≤ 50) : cmpD .eq (fmD f) (fmD g) h = .ok (.bl (decide (f = g))) h := by
  have sf : shapeB (fmD f) = true := by simp only [shapeB, depD_fmD]; exact decide_eq_true (by omega)
  have sg : shapeB (fmD g) = true := by simp only [shapeB, depD_fmD]; exact decide_eq_true (by omega)
  have e : cmpD .eq (fmD f) (fmD g) h = cmpS .eq (fmD f) (fmD g) h := by
    unfold cmpD
    cases dctOf h (fmD g) <;> cases kyOf (fmD f) <;> rfl
  have e2 : cmpS .eq (fmD f) (fmD g) h = if shapeB (plainD h (fmD f)) && shapeB (plainD h (fmD g)) then .ok (.bl (eqD (plainD h (fmD f)) (plainD h (fmD g)))) h else .bad := by
    cases f <;> cases g <;> rfl
  rw [e, e2, plainD_fmD, plainD_fmD, sf, sg, if_pos (show (true && true) = true from rfl), eqD_fmD]
theorem dpF_form {p : List Nat} (h : nl p ≤ 8) : dpF (form p) ≤ 50 := by have := dpF_le 8 p h; omega
mutual
theorem eqD_self : ∀ (d : Dv) {n : Nat}, depD d = some n → eqD d d = true
  | .non, _, _ => rfl
  | .bl b, _, _ => by simp [eqD]
  | .int i, _, _ => by simp [eqD]
  | .str s, _, _ => by simp [eqD]
  | .tup xs, n, e => by
    simp only [depD] at e
    cases q : depDs xs with
    | none => rw [q] at e; cases e
    | some m => rw [eqD]; exact eqDs_self xs q
  | .lst xs, n, e => by
    simp only [depD] at e
    cases q : depDs xs with
    | none => rw [q] at e; cases e
    | some m => rw [eqD]; exact eqDs_self xs q
  | .loc m, n, e => by cases e
theorem eqDs_self : ∀ (ds : List Dv) {n : Nat}, depDs ds = some n → eqDs ds ds = true
  | [], _, _ => rfl
  | d :: ds, n, e => by
    obtain ⟨a, b, h1, h2, _⟩ := depDs_cons e
    rw [eqDs, eqD_self d h1, eqDs_self ds h2]
    rfl
end
theorem plainD_dep {h : Hc} {d : Dv} {n : Nat} (e : depD d = some n) : plainD h d = d := by cases d <;> first | rfl | cases e
theorem cmpD_eqS {h : Hc} (x y : Dv) : cmpD .eq x y h = (if shapeB (plainD h x) && shapeB (plainD h y) then .ok (.bl (eqD (plainD h x) (plainD h y))) h else .bad) := by
  have e : cmpD .eq x y h = cmpS .eq x y h := by
    unfold cmpD
    cases dctOf h y <;> cases kyOf x <;> rfl
  rw [e]
  cases x <;> cases y <;> rfl
theorem cmpD_neS {h : Hc} (x y : Dv) : cmpD .ne x y h = (if shapeB (plainD h x) && shapeB (plainD h y) then .ok (.bl (!eqD (plainD h x) (plainD h y))) h else .bad) := by
  have e : cmpD .ne x y h = cmpS .ne x y h := by
    unfold cmpD
    cases dctOf h y <;> cases kyOf x <;> rfl
  rw [e]
  cases x <;> cases y <;> rfl
theorem shape_dep {d : Dv} {n : Nat} (e : depD d = some n) (hn : n ≤ 60) : shapeB d = true := by simp only [shapeB, e]; exact decide_eq_true hn
theorem cmp_eq_self {h : Hc} {d : Dv} {n : Nat} (e : depD d = some n) (hn : n ≤ 60) : cmpD .eq d d h = .ok (.bl true) h := by
  rw [cmpD_eqS, plainD_dep e, shape_dep e hn, if_pos (show (true && true) = true from rfl), eqD_self d e]
theorem cmp_ne_self {h : Hc} {d : Dv} {n : Nat} (e : depD d = some n) (hn : n ≤ 60) : cmpD .ne d d h = .ok (.bl false) h := by
  rw [cmpD_neS, plainD_dep e, shape_dep e hn, if_pos (show (true && true) = true from rfl), eqD_self d e]
  rfl
theorem cmp_eq_gen {h : Hc} {d e : Dv} {n m : Nat} (h1 : depD d = some n) (h2 : depD e = some m) (hn : n ≤ 60) (hm : m ≤ 60) : cmpD .eq d e h = .ok (.bl (eqD d e)) h := by
  rw [cmpD_eqS, plainD_dep h1, plainD_dep h2, shape_dep h1 hn, shape_dep h2 hm, if_pos (show (true && true) = true from rfl)]
theorem cmp_ne_gen {h : Hc} {d e : Dv} {n m : Nat} (h1 : depD d = some n) (h2 : depD e = some m) (hn : n ≤ 60) (hm : m ≤ 60) : cmpD .ne d e h = .ok (.bl (!eqD d e)) h := by
  rw [cmpD_neS, plainD_dep h1, plainD_dep h2, shape_dep h1 hn, shape_dep h2 hm, if_pos (show (true && true) = true from rfl)]
theorem depDs_strs : ∀ L : List (List Nat), depDs (L.map .str) = some 0
  | [] => rfl
  | s :: L => by simp only [List.map_cons, depDs, depDs_strs L, depD]; rfl
section
variable {fs : List MFn} {gl : List Dv} {X : Ix}
theorem alike_ok (H : HasFormOf fs X) (hf : fs[X.alike]? = some (F_alike X)) (k : Nat) (p q : List Nat) (h : Hc) (hp : nl p ≤ 8) (hq : nl q ≤ 8) (lp : p.length < SZ) (lq : q.length < SZ) (hc : h.all (belowC h.length) = true) :
    callF fs gl (k + 14) X.alike [.str p, .str q] h = .ok (.bl (decide (form p = form q))) h := by
  rw [callF_in hf rfl]
  have e1 := form_of_ok (gl := gl) H k p h hp lp hc
  have e2 := form_of_ok (gl := gl) H k q h hq lq hc
  have e3 := cmp_fmD (h := h) (dpF_form hp) (dpF_form hq)
  have tl := @trim_len h.length (.bl (decide (form p = form q))) h rfl
  simp only [F_alike, B_alike, startD, List.map_cons, List.map_nil, List.replicate, List.length_cons, List.length_nil, Nat.reduceAdd, Nat.reduceSub, List.cons_append, List.nil_append]
  simp -implicitDefEqProofs only [exs_cons, seqF, exs_nil, ex_asg, ex_par, ex_seti, ex_aug, ex_expr, ex_ret, ex_retn, ex_ite, ex_forr, ex_whil, ex_pass, ex_brk, ex_cont, ev_var, ev_cst, ev_glb, ev_bin, ev_cmp, ev_chain, ev_isn, ev_neg, ev_not, ev_bop, ev_ite, ev_tup, ev_lst, ev_new, ev_idx, ev_sl, ev_rev, ev_bi, ev_bi1, ev_mt, ev_call, ev_comp, ev_frz, evs_nil, evs_cons, evB_one, evB_cons, evO_none, evO_some, optF_int, evC_none, evC_some, evI_seq, evI_range1, evI_range2, evI_enum, evI_zip, rngF_int, rngF2_int, enuF_str, enuF_lst, permD, List.getElem?_cons_zero, List.getElem?_cons_succ, List.cons_append, List.nil_append, List.append_nil, List.set_cons_zero, List.set_cons_succ, Res.bind_ok, Res.calm_ok, tg_name, tg_tup1, tg_tup2, tg_tup3, tg_tup4, compF_ap, bodyF_ap, wipeD, List.length_cons, List.length_nil, List.zip_cons_cons, List.zip_nil_right, List.foldl_cons, List.foldl_nil, if_true, if_false, Bool.false_eq_true, Bool.true_eq_false, truth_bl, truth_str, truth_int, truth_lst, truth_tup, truth_non, Bool.not_true, Bool.not_false, beq_self_eq_true, Nat.zero_add, Nat.reduceAdd, Nat.reduceSub, SZ0, SZ1, SZ2, SZ3, SZ4, SZ5, SZ6, SZ7, SZ8, bin_add, bin_sub, cmp_lt, cmp_le, cmp_gt, cmp_ge, cmp_eqi, cmp_nei, cmp_eqs, cmp_nes, cmp_eqb, cmp_neb, cmp_inns, cmp_nins, bi_int, bi_intb, bi_abs, bi_lens, bi_lent, bi_lenl, seqD_str, seqD_tup, seqD_lst, rev_str, neg_int, endR, beq_tt, beq_ff, beq_tf, beq_ft, Bool.and_true, Bool.and_false, Bool.true_and, Bool.false_and, Bool.or_true, Bool.or_false, Bool.true_or, Bool.false_or, e1, e2, e3, tl]
theorem alike_row (H : HasFormOf fs X) (hf : fs[X.alike]? = some (F_alike X)) (k : Nat) {p q : List Nat} {b : Bool} (h : Hc) (hc : h.all (belowC h.length) = true) (hp : p.all (fun c => memN c ABC) = true) (hq : q.all (fun c => memN c ABC) = true) (lp : Nat.ble (p.length + 1) SZ = true) (lq : Nat.ble (q.length + 1) SZ = true) (e : beqF (formB 8 p) (formB 8 q) = b) :
    callF fs gl (k + 14) X.alike [.str p, .str q] h = .ok (.bl b) h := by
  rw [← alike_by (nl_by hp) (nl_by hq) e]
  exact alike_ok H hf k p q h (nl_by hp) (nl_by hq) (Nat.le_of_ble_eq_true lp) (Nat.le_of_ble_eq_true lq) hc
theorem l_alike_ok (H : HasLForm fs X) (hf : fs[X.l_alike]? = some (F_l_alike X)) (k : Nat) (p q : List Nat) (h : Hc) (hp : nl p ≤ 8) (hq : nl q ≤ 8) :
    callF fs gl (k + 11) X.l_alike [.str p, .str q] h = .ok (.bl (decide (form p = form q))) h := by
  rw [callF_in hf rfl]
  have e1 := l_form_ok (gl := gl) H 8 k p h hp (by omega)
  have e2 := l_form_ok (gl := gl) H 8 k q h hq (by omega)
  have e3 := cmp_fmD (h := h) (dpF_form hp) (dpF_form hq)
  have tl := @trim_len h.length (.bl (decide (form p = form q))) h rfl
  simp only [F_l_alike, B_l_alike, startD, List.map_cons, List.map_nil, List.replicate, List.length_cons, List.length_nil, Nat.reduceAdd, Nat.reduceSub, List.cons_append, List.nil_append]
  simp -implicitDefEqProofs only [exs_cons, seqF, exs_nil, ex_asg, ex_par, ex_seti, ex_aug, ex_expr, ex_ret, ex_retn, ex_ite, ex_forr, ex_whil, ex_pass, ex_brk, ex_cont, ev_var, ev_cst, ev_glb, ev_bin, ev_cmp, ev_chain, ev_isn, ev_neg, ev_not, ev_bop, ev_ite, ev_tup, ev_lst, ev_new, ev_idx, ev_sl, ev_rev, ev_bi, ev_bi1, ev_mt, ev_call, ev_comp, ev_frz, evs_nil, evs_cons, evB_one, evB_cons, evO_none, evO_some, optF_int, evC_none, evC_some, evI_seq, evI_range1, evI_range2, evI_enum, evI_zip, rngF_int, rngF2_int, enuF_str, enuF_lst, permD, List.getElem?_cons_zero, List.getElem?_cons_succ, List.cons_append, List.nil_append, List.append_nil, List.set_cons_zero, List.set_cons_succ, Res.bind_ok, Res.calm_ok, tg_name, tg_tup1, tg_tup2, tg_tup3, tg_tup4, compF_ap, bodyF_ap, wipeD, List.length_cons, List.length_nil, List.zip_cons_cons, List.zip_nil_right, List.foldl_cons, List.foldl_nil, if_true, if_false, Bool.false_eq_true, Bool.true_eq_false, truth_bl, truth_str, truth_int, truth_lst, truth_tup, truth_non, Bool.not_true, Bool.not_false, beq_self_eq_true, Nat.zero_add, Nat.reduceAdd, Nat.reduceSub, SZ0, SZ1, SZ2, SZ3, SZ4, SZ5, SZ6, SZ7, SZ8, bin_add, bin_sub, cmp_lt, cmp_le, cmp_gt, cmp_ge, cmp_eqi, cmp_nei, cmp_eqs, cmp_nes, cmp_eqb, cmp_neb, cmp_inns, cmp_nins, bi_int, bi_intb, bi_abs, bi_lens, bi_lent, bi_lenl, seqD_str, seqD_tup, seqD_lst, rev_str, neg_int, endR, beq_tt, beq_ff, beq_tf, beq_ft, Bool.and_true, Bool.and_false, Bool.true_and, Bool.false_and, Bool.or_true, Bool.or_false, Bool.true_or, Bool.false_or, e1, e2, e3, tl]
end
end Dn

set_option Elab.async false
set_option linter.all false
set_option maxRecDepth 100000
set_option maxHeartbeats 4000000
/-! forms tell plans; plans with one form put together have one form -/
namespace Dn
def planF : Fm → List Nat
  | .nil => []
  | .node a x y b => if planF a = [] then [x] else planF a ++ [x, y] ++ planF b
/-- a form -/
def Vf : Fm → Prop
  | .nil => True
  | .node a x y b => Vf a ∧ Vf b ∧ ¬ memF x a ∧ ¬ memF y b ∧ ∀ c, (memF c a ∨ c = x) ↔ (memF c b ∨ c = y)
theorem mem_form (c : Nat) (p : List Nat) : memF c (form p) ↔ c ∈ p := memF_form c _ p (Nat.le_refl _)
theorem form_Vf : ∀ (n : Nat) (p : List Nat), p.length ≤ n → Vf (form p)
  | n, p, h => by
    by_cases hp : p = []
    · subst hp; rw [form_nil]; trivial
    · cases n with
      | zero => exact absurd (List.length_eq_zero_iff.mp (by omega)) hp
      | succ n =>
        have la := ahead_len hp
        have lb := behind_len hp
        rw [form_node hp]
        refine ⟨form_Vf n _ (by omega), form_Vf n _ (by omega), fun z => came_not hp ((mem_form _ _).mp z), fun z => went_not p hp ((mem_form _ _).mp z), fun c => ?_⟩
        rw [mem_form, mem_form]
        constructor
        · intro z
          have : c ∈ p := by
            rcases z with z | z
            · exact ahead_sub p c z
            · exact z ▸ came_mem hp
          rcases mem_behind p c this with w | w
          · exact .inr w
          · exact .inl w
        · intro z
          have : c ∈ p := by
            rcases z with z | z
            · exact behind_sub p c z
            · exact z ▸ went_mem hp
          rcases mem_ahead p c this with w | w
          · exact .inr w
          · exact .inl w
theorem form_ok (p : List Nat) : Vf (form p) := form_Vf _ p (Nat.le_refl _)
theorem planF_ne {a : Fm} (h : a ≠ .nil) : planF a ≠ [] := by
  cases a with
  | nil => exact absurd rfl h
  | node a x y b =>
    rw [planF]
    split <;> simp
theorem planF_nil {a : Fm} (h : planF a = []) : a = .nil := by
  cases a with
  | nil => rfl
  | node a x y b => exact absurd h (planF_ne (by simp))
theorem no_mem : ∀ {b : Fm}, (∀ c, ¬ memF c b) → b = .nil
  | .nil, _ => rfl
  | .node a x y b, h => absurd (Or.inr rfl) (h x)
theorem planF_ok : ∀ (f : Fm), Vf f → form (planF f) = f ∧ ∀ c, c ∈ planF f ↔ memF c f
  | .nil, _ => ⟨form_nil, fun c => by simp [planF, memF]⟩
  | .node a x y b, ⟨va, vb, nx, ny, hl⟩ => by
    obtain ⟨fa, ma⟩ := planF_ok a va
    obtain ⟨fb, mb⟩ := planF_ok b vb
    rw [planF]
    by_cases ha : planF a = []
    · rw [if_pos ha]
      have ea := planF_nil ha
      subst ea
      have hb : b = .nil := no_mem fun c hc => by
        have := (hl c).mpr (.inl hc)
        rcases this with z | z
        · exact z
        · have hy := (hl y).mpr (.inr rfl)
          rcases hy with w | w
          · exact w
          · rw [z, ← w] at hc; exact ny hc
      subst hb
      have hy : y = x := by
        rcases (hl y).mpr (.inr rfl) with w | w
        · exact False.elim w
        · exact w
      subst hy
      constructor
      · rw [form_node (by simp)]
        have e1 : ahead [y] = [] := rfl
        have e2 : behind [y] = [] := rfl
        rw [e1, e2, form_nil]
        rfl
      · intro c
        simp [memF]
    · rw [if_neg ha]
      have hx : x ∉ planF a := fun z => nx ((ma x).mp z)
      have hy : y ∉ planF b := fun z => ny ((mb y).mp z)
      have hlet : ∀ c, c ∈ planF a ++ [x] ↔ c ∈ y :: planF b := fun c => by
        rw [List.mem_append, List.mem_singleton, List.mem_cons, ma, mb, hl c]
        exact Or.comm
      have e0 : planF a ++ [x, y] ++ planF b = (planF a ++ [x]) ++ (y :: planF b) := by simp
      have A := ahead_app (planF a ++ [x]) (y :: planF b) (fun c hc => (hlet c).mpr hc) (by simp)
      have B := behind_app (planF a ++ [x]) (y :: planF b) (fun c hc => (hlet c).mp hc) (by simp)
      constructor
      · rw [e0, form_node (by simp), A.1, A.2, B.1, B.2, ahead_snoc, came_snoc, if_neg hx, if_neg hx, behind, went, if_neg hy, if_neg hy, fa, fb]
      · intro c
        rw [e0, List.mem_append, hlet c, or_self, ← hlet c, List.mem_append, List.mem_singleton, ma]
        rfl
theorem form_planF {f : Fm} (h : Vf f) : form (planF f) = f := (planF_ok f h).1
theorem mem_planF {f : Fm} (h : Vf f) (c : Nat) : c ∈ planF f ↔ memF c f := (planF_ok f h).2 c
theorem form_eq_nil {p : List Nat} (h : form p = .nil) : p = [] := by
  by_cases hp : p = []
  · exact hp
  · rw [form_node hp] at h; cases h
/-! ### one letter more -/
theorem behind_snoc_ne {u : List Nat} {c : Nat} (hu : u ≠ []) (hc : c ≠ went u) : behind (u ++ [c]) = behind u ++ [c] ∧ went (u ++ [c]) = went u := by
  obtain ⟨s, e⟩ := split_behind u hu
  have hs : ∀ d ∈ s, d ∈ went u :: (behind u ++ [c]) := fun d hd => by
    have : d ∈ u := by rw [e]; exact List.mem_append_left _ hd
    rcases mem_behind u d this with z | z
    · rw [z]; exact .head _
    · exact .tail _ (List.mem_append_left _ z)
  have e2 : u ++ [c] = s ++ (went u :: (behind u ++ [c])) := by
    conv => lhs; rw [e]
    simp
  have B := behind_app s (went u :: (behind u ++ [c])) hs (by simp)
  have hn : went u ∉ behind u ++ [c] := fun z => by
    rcases List.mem_append.mp z with z | z
    · exact went_not u hu z
    · exact hc (List.mem_singleton.mp z).symm
  rw [e2, B.1, B.2, behind, went, if_neg hn, if_neg hn]
  exact ⟨rfl, rfl⟩
theorem behind_snoc_eq {u : List Nat} (hu : u ≠ []) : behind (u ++ [went u]) = behind (behind u ++ [went u]) ∧ went (u ++ [went u]) = went (behind u ++ [went u]) := by
  obtain ⟨s, e⟩ := split_behind u hu
  have hs : ∀ d ∈ s ++ [went u], d ∈ behind u ++ [went u] := fun d hd => by
    rcases List.mem_append.mp hd with hd | hd
    · have : d ∈ u := by rw [e]; exact List.mem_append_left _ hd
      rcases mem_behind u d this with z | z
      · rw [z]; simp
      · exact List.mem_append_left _ z
    · rw [List.mem_singleton.mp hd]; simp
  have e2 : u ++ [went u] = (s ++ [went u]) ++ (behind u ++ [went u]) := by
    conv => lhs; arg 1; rw [e]
    simp
  have B := behind_app (s ++ [went u]) (behind u ++ [went u]) hs (by simp)
  rw [e2]
  exact B
theorem form_snoc : ∀ (n : Nat) (u v : List Nat) (c : Nat), u.length ≤ n → form u = form v → form (u ++ [c]) = form (v ++ [c])
  | n, u, v, c, hn, e => by
    by_cases hu : u = []
    · subst hu
      rw [form_nil] at e
      rw [form_eq_nil e.symm]
    · have hv : v ≠ [] := fun z => by rw [z, form_nil] at e; exact hu (form_eq_nil e)
      cases n with
      | zero => exact absurd (List.length_eq_zero_iff.mp (by omega)) hu
      | succ n =>
        have lb := behind_len hu
        have e' := e
        rw [form_node hu, form_node hv] at e'
        injection e' with ea ec ew eb
        have hmem := form_mem e c
        rw [form_node (p := u ++ [c]) (by simp), form_node (p := v ++ [c]) (by simp), ahead_snoc, ahead_snoc, came_snoc, came_snoc]
        have E1 : form (if c ∈ u then ahead u else u) = form (if c ∈ v then ahead v else v) := by
          by_cases z : c ∈ u
          · rw [if_pos z, if_pos (hmem.mp z), ea]
          · rw [if_neg z, if_neg fun w => z (hmem.mpr w), e]
        have E2 : (if c ∈ u then came u else c) = (if c ∈ v then came v else c) := by
          by_cases z : c ∈ u
          · rw [if_pos z, if_pos (hmem.mp z), ec]
          · rw [if_neg z, if_neg fun w => z (hmem.mpr w)]
        have ih := form_snoc n (behind u) (behind v) c (by omega) eb
        by_cases z : c = went u
        · subst z
          have Bu := behind_snoc_eq hu
          have Bv := behind_snoc_eq hv
          rw [← ew] at Bv
          have h1 := ih
          rw [form_node (p := behind u ++ [went u]) (by simp), form_node (p := behind v ++ [went u]) (by simp)] at h1
          injection h1 with _ _ h2 h3
          rw [E1, E2, Bu.1, Bu.2, Bv.1, Bv.2, h2, h3]
        · have Bu := behind_snoc_ne hu z
          have Bv := behind_snoc_ne hv (by rw [← ew]; exact z)
          rw [E1, E2, Bu.1, Bu.2, Bv.1, Bv.2, ew, ih]
theorem form_app_r {u v : List Nat} (e : form u = form v) (w : List Nat) : form (u ++ w) = form (v ++ w) := by
  induction w using list_snoc with
  | h0 => simpa using e
  | h1 w c ih =>
    rw [← List.append_assoc, ← List.append_assoc]
    exact form_snoc _ _ _ c (Nat.le_refl _) ih
theorem form_app_l {u v : List Nat} (e : form u = form v) (w : List Nat) : form (w ++ u) = form (w ++ v) := by
  have h := form_app_r (u := u.reverse) (v := v.reverse) (by rw [form_reverse, form_reverse, e]) w.reverse
  rw [← List.reverse_append, ← List.reverse_append, form_reverse, form_reverse] at h
  have := congrArg revF h
  rwa [revF_revF, revF_revF] at this
theorem form_app {u v w z : List Nat} (e : form u = form v) (e2 : form w = form z) : form (u ++ w) = form (v ++ z) := (form_app_r e w).trans (form_app_l e2 v)
theorem form_prod (u v : List Nat) : form (planF (form u) ++ planF (form v)) = form (u ++ v) := form_app (form_planF (form_ok u)) (form_planF (form_ok v))
end Dn

set_option Elab.async false
set_option linter.all false
set_option maxRecDepth 100000
set_option maxHeartbeats 4000000
/-! plans of forms, forms put together, drawn forms -/
namespace Dn
open PySem L2
/-- a form of tuples, of lists -/
def sqD (t : Bool) (xs : List Dv) : Dv := if t then .tup xs else .lst xs
def fmG (t : Bool) : Fm → Dv
  | .nil => sqD t []
  | .node a x y b => sqD t [fmG t a, chD x, chD y, fmG t b]
theorem fmG_true : ∀ f, fmG true f = fmD f
  | .nil => rfl
  | .node a x y b => by rw [fmG, fmD, fmG_true a, fmG_true b]; rfl
theorem len_sq {h : Hc} (t : Bool) (xs : List Dv) : biD .len [sqD t xs] h = .ok (.int xs.length) h := by cases t <;> rfl
theorem idx_sq {h : Hc} (t : Bool) {xs : List Dv} {i : Nat} {x : Dv} (e : xs[i]? = some x) : idxD (sqD t xs) (.int (i : Int)) h = .ok x h := by
  cases t
  · exact idx_lst (atI_nat e)
  · show idxS (.tup xs) (.int (i : Int)) h = _
    simp only [idxS, atD, atI_nat e]
theorem planF_len : ∀ f, (planF f).length + 2 ≤ 3 * 2 ^ dpF f
  | .nil => by simp [planF, dpF]
  | .node a x y b => by
    have ha := planF_len a
    have hb := planF_len b
    have h1 : 2 ^ dpF a ≤ 2 ^ max (dpF a) (dpF b) := Nat.pow_le_pow_right (by decide) (Nat.le_max_left ..)
    have h2 : 2 ^ dpF b ≤ 2 ^ max (dpF a) (dpF b) := Nat.pow_le_pow_right (by decide) (Nat.le_max_right ..)
    have h3 : 2 ^ (max (dpF a) (dpF b) + 1) = 2 * 2 ^ max (dpF a) (dpF b) := by rw [Nat.pow_succ]; omega
    have h4 := Nat.one_le_two_pow (n := max (dpF a) (dpF b))
    rw [planF, dpF, h3]
    split
    · simp; omega
    · simp; omega
theorem planF_small {f : Fm} (h : dpF f ≤ 9) : (planF f).length < 2 ^ 11 := by
  have := planF_len f
  have h2 : 2 ^ dpF f ≤ 2 ^ 9 := Nat.pow_le_pow_right (by decide) h
  omega
section
variable {fs : List MFn} {gl : List Dv} {X : Ix}
theorem plan_by_ok (hf : fs[X.plan_by]? = some (F_plan_by X)) (t : Bool) : ∀ (n k : Nat) (f : Fm) (h : Hc), dpF f ≤ n → n ≤ 9 → callF fs gl (k + n + 1) X.plan_by [fmG t f] h = .ok (.str (planF f)) h := by
  have base : ∀ k h, callF fs gl (k + 1) X.plan_by [fmG t .nil] h = .ok (.str []) h := fun k h => by
    rw [callF_in hf rfl]
    have l0 := len_sq (h := h) t []
    have d : ((([] : List Dv).length : Int) == 0) = true := rfl
    have tl := @trim_len h.length (.str []) h rfl
    simp only [F_plan_by, B_plan_by, fmG, startD, List.map_cons, List.map_nil, List.replicate, List.length_cons, List.length_nil, Nat.reduceAdd, Nat.reduceSub, List.cons_append, List.nil_append]
    simp -implicitDefEqProofs only [exs_cons, seqF, exs_nil, ex_asg, ex_par, ex_seti, ex_aug, ex_expr, ex_ret, ex_retn, ex_ite, ex_forr, ex_whil, ex_pass, ex_brk, ex_cont, ev_var, ev_cst, ev_glb, ev_bin, ev_cmp, ev_chain, ev_isn, ev_neg, ev_not, ev_bop, ev_ite, ev_tup, ev_lst, ev_new, ev_idx, ev_sl, ev_rev, ev_bi, ev_bi1, ev_mt, ev_call, ev_comp, ev_frz, evs_nil, evs_cons, evB_one, evB_cons, evO_none, evO_some, optF_int, evC_none, evC_some, evI_seq, evI_range1, evI_range2, evI_enum, evI_zip, rngF_int, rngF2_int, enuF_str, enuF_lst, permD, List.getElem?_cons_zero, List.getElem?_cons_succ, List.cons_append, List.nil_append, List.append_nil, List.set_cons_zero, List.set_cons_succ, Res.bind_ok, Res.calm_ok, tg_name, tg_tup1, tg_tup2, tg_tup3, tg_tup4, compF_ap, bodyF_ap, wipeD, List.length_cons, List.length_nil, List.zip_cons_cons, List.zip_nil_right, List.foldl_cons, List.foldl_nil, if_true, if_false, Bool.false_eq_true, Bool.true_eq_false, truth_bl, truth_str, truth_int, truth_lst, truth_tup, truth_non, Bool.not_true, Bool.not_false, beq_self_eq_true, Nat.zero_add, Nat.reduceAdd, Nat.reduceSub, SZ0, SZ1, SZ2, SZ3, SZ4, SZ5, SZ6, SZ7, SZ8, bin_add, bin_sub, cmp_lt, cmp_le, cmp_gt, cmp_ge, cmp_eqi, cmp_nei, cmp_eqs, cmp_nes, cmp_eqb, cmp_neb, cmp_inns, cmp_nins, bi_int, bi_intb, bi_abs, bi_lens, bi_lent, bi_lenl, seqD_str, seqD_tup, seqD_lst, rev_str, neg_int, endR, beq_tt, beq_ff, beq_tf, beq_ft, Bool.and_true, Bool.and_false, Bool.true_and, Bool.false_and, Bool.or_true, Bool.or_false, Bool.true_or, Bool.false_or, l0, tl]
    first | exact tl | rfl
  intro n
  induction n with
  | zero =>
    intro k f h hd _
    cases f with
    | nil => exact base k h
    | node a x y b => simp [dpF] at hd
  | succ n ih =>
    intro k f h hd h9
    cases f with
    | nil => exact base _ h
    | node a x y b =>
      simp only [dpF] at hd
      have e1 := ih k a h (by omega) (by omega)
      have e2 := ih k b h (by omega) (by omega)
      have ek : k + (n + 1) + 1 = k + n + 1 + 1 := by omega
      rw [ek, callF_in hf rfl]
      have pa := planF_small (f := a) (by omega)
      have pb := planF_small (f := b) (by omega)
      have l0 := len_sq (h := h) t [fmG t a, chD x, chD y, fmG t b]
      have d : ((([fmG t a, chD x, chD y, fmG t b] : List Dv).length : Int) == 0) = false := rfl
      have i0 : idxD (sqD t [fmG t a, chD x, chD y, fmG t b]) (.int 0) h = .ok (fmG t a) h := idx_sq t (i := 0) rfl
      have i1 : idxD (sqD t [fmG t a, chD x, chD y, fmG t b]) (.int 1) h = .ok (chD x) h := idx_sq t (i := 1) rfl
      have i2 : idxD (sqD t [fmG t a, chD x, chD y, fmG t b]) (.int 2) h = .ok (chD y) h := idx_sq t (i := 2) rfl
      have i3 : idxD (sqD t [fmG t a, chD x, chD y, fmG t b]) (.int 3) h = .ok (fmG t b) h := idx_sq t (i := 3) rfl
      have a1 := adds_ok (h := h) (planF a) [x] (by simp; unfold SZ; omega)
      have a2 := adds_ok (h := h) (planF a ++ [x]) [y] (by simp; unfold SZ; omega)
      have a3 := adds_ok (h := h) (planF a ++ [x] ++ [y]) (planF b) (by simp; unfold SZ; omega)
      have tl := fun s => @trim_len h.length (.str s) h rfl
      generalize hL : [fmG t a, chD x, chD y, fmG t b] = L at *
      by_cases z : planF a = []
      · have d1 : (!(planF a == ([] : List Nat))) = false := by rw [z]; rfl
        simp only [F_plan_by, B_plan_by, fmG, hL, startD, List.map_cons, List.map_nil, List.replicate, List.length_cons, List.length_nil, Nat.reduceAdd, Nat.reduceSub, List.cons_append, List.nil_append]
        simp -implicitDefEqProofs only [exs_cons, seqF, exs_nil, ex_asg, ex_par, ex_seti, ex_aug, ex_expr, ex_ret, ex_retn, ex_ite, ex_forr, ex_whil, ex_pass, ex_brk, ex_cont, ev_var, ev_cst, ev_glb, ev_bin, ev_cmp, ev_chain, ev_isn, ev_neg, ev_not, ev_bop, ev_ite, ev_tup, ev_lst, ev_new, ev_idx, ev_sl, ev_rev, ev_bi, ev_bi1, ev_mt, ev_call, ev_comp, ev_frz, evs_nil, evs_cons, evB_one, evB_cons, evO_none, evO_some, optF_int, evC_none, evC_some, evI_seq, evI_range1, evI_range2, evI_enum, evI_zip, rngF_int, rngF2_int, enuF_str, enuF_lst, permD, List.getElem?_cons_zero, List.getElem?_cons_succ, List.cons_append, List.nil_append, List.append_nil, List.set_cons_zero, List.set_cons_succ, Res.bind_ok, Res.calm_ok, tg_name, tg_tup1, tg_tup2, tg_tup3, tg_tup4, compF_ap, bodyF_ap, wipeD, List.length_cons, List.length_nil, List.zip_cons_cons, List.zip_nil_right, List.foldl_cons, List.foldl_nil, if_true, if_false, Bool.false_eq_true, Bool.true_eq_false, truth_bl, truth_str, truth_int, truth_lst, truth_tup, truth_non, Bool.not_true, Bool.not_false, beq_self_eq_true, Nat.zero_add, Nat.reduceAdd, Nat.reduceSub, SZ0, SZ1, SZ2, SZ3, SZ4, SZ5, SZ6, SZ7, SZ8, bin_add, bin_sub, cmp_lt, cmp_le, cmp_gt, cmp_ge, cmp_eqi, cmp_nei, cmp_eqs, cmp_nes, cmp_eqb, cmp_neb, cmp_inns, cmp_nins, bi_int, bi_intb, bi_abs, bi_lens, bi_lent, bi_lenl, seqD_str, seqD_tup, seqD_lst, rev_str, neg_int, endR, beq_tt, beq_ff, beq_tf, beq_ft, Bool.and_true, Bool.and_false, Bool.true_and, Bool.false_and, Bool.or_true, Bool.or_false, Bool.true_or, Bool.false_or, l0, d, i0, i1, i2, i3, e1, e2, d1, tl]
        rw [planF, if_pos z]
      · have d1 : (!(planF a == ([] : List Nat))) = true := by simpa using z
        simp only [F_plan_by, B_plan_by, fmG, hL, startD, List.map_cons, List.map_nil, List.replicate, List.length_cons, List.length_nil, Nat.reduceAdd, Nat.reduceSub, List.cons_append, List.nil_append]
        simp -implicitDefEqProofs only [exs_cons, seqF, exs_nil, ex_asg, ex_par, ex_seti, ex_aug, ex_expr, ex_ret, ex_retn, ex_ite, ex_forr, ex_whil, ex_pass, ex_brk, ex_cont, ev_var, ev_cst, ev_glb, ev_bin, ev_cmp, ev_chain, ev_isn, ev_neg, ev_not, ev_bop, ev_ite, ev_tup, ev_lst, ev_new, ev_idx, ev_sl, ev_rev, ev_bi, ev_bi1, ev_mt, ev_call, ev_comp, ev_frz, evs_nil, evs_cons, evB_one, evB_cons, evO_none, evO_some, optF_int, evC_none, evC_some, evI_seq, evI_range1, evI_range2, evI_enum, evI_zip, rngF_int, rngF2_int, enuF_str, enuF_lst, permD, List.getElem?_cons_zero, List.getElem?_cons_succ, List.cons_append, List.nil_append, List.append_nil, List.set_cons_zero, List.set_cons_succ, Res.bind_ok, Res.calm_ok, tg_name, tg_tup1, tg_tup2, tg_tup3, tg_tup4, compF_ap, bodyF_ap, wipeD, List.length_cons, List.length_nil, List.zip_cons_cons, List.zip_nil_right, List.foldl_cons, List.foldl_nil, if_true, if_false, Bool.false_eq_true, Bool.true_eq_false, truth_bl, truth_str, truth_int, truth_lst, truth_tup, truth_non, Bool.not_true, Bool.not_false, beq_self_eq_true, Nat.zero_add, Nat.reduceAdd, Nat.reduceSub, SZ0, SZ1, SZ2, SZ3, SZ4, SZ5, SZ6, SZ7, SZ8, bin_add, bin_sub, cmp_lt, cmp_le, cmp_gt, cmp_ge, cmp_eqi, cmp_nei, cmp_eqs, cmp_nes, cmp_eqb, cmp_neb, cmp_inns, cmp_nins, bi_int, bi_intb, bi_abs, bi_lens, bi_lent, bi_lenl, seqD_str, seqD_tup, seqD_lst, rev_str, neg_int, endR, beq_tt, beq_ff, beq_tf, beq_ft, Bool.and_true, Bool.and_false, Bool.true_and, Bool.false_and, Bool.or_true, Bool.or_false, Bool.true_or, Bool.false_or, l0, d, i0, i1, i2, i3, e1, e2, d1, a1, a2, a3, tl]
        rw [planF, if_neg z]
        simp
theorem plan_of_ok (hf : fs[X.plan_of]? = some (F_plan_of X)) (hb : fs[X.plan_by]? = some (F_plan_by X)) (t : Bool) (k : Nat) (f : Fm) (h : Hc) (hd : dpF f ≤ 8) : callF fs gl (k + 10) X.plan_of [fmG t f] h = .ok (.str (planF f)) h := by
  rw [callF_in hf rfl]
  have e := plan_by_ok (gl := gl) hb t 8 k f h hd (by omega)
  have tl := @trim_len h.length (.str (planF f)) h rfl
  simp only [F_plan_of, B_plan_of, startD, List.map_cons, List.map_nil, List.replicate, List.length_cons, List.length_nil, Nat.reduceAdd, Nat.reduceSub, List.cons_append, List.nil_append]
  simp -implicitDefEqProofs only [exs_cons, seqF, exs_nil, ex_asg, ex_par, ex_seti, ex_aug, ex_expr, ex_ret, ex_retn, ex_ite, ex_forr, ex_whil, ex_pass, ex_brk, ex_cont, ev_var, ev_cst, ev_glb, ev_bin, ev_cmp, ev_chain, ev_isn, ev_neg, ev_not, ev_bop, ev_ite, ev_tup, ev_lst, ev_new, ev_idx, ev_sl, ev_rev, ev_bi, ev_bi1, ev_mt, ev_call, ev_comp, ev_frz, evs_nil, evs_cons, evB_one, evB_cons, evO_none, evO_some, optF_int, evC_none, evC_some, evI_seq, evI_range1, evI_range2, evI_enum, evI_zip, rngF_int, rngF2_int, enuF_str, enuF_lst, permD, List.getElem?_cons_zero, List.getElem?_cons_succ, List.cons_append, List.nil_append, List.append_nil, List.set_cons_zero, List.set_cons_succ, Res.bind_ok, Res.calm_ok, tg_name, tg_tup1, tg_tup2, tg_tup3, tg_tup4, compF_ap, bodyF_ap, wipeD, List.length_cons, List.length_nil, List.zip_cons_cons, List.zip_nil_right, List.foldl_cons, List.foldl_nil, if_true, if_false, Bool.false_eq_true, Bool.true_eq_false, truth_bl, truth_str, truth_int, truth_lst, truth_tup, truth_non, Bool.not_true, Bool.not_false, beq_self_eq_true, Nat.zero_add, Nat.reduceAdd, Nat.reduceSub, SZ0, SZ1, SZ2, SZ3, SZ4, SZ5, SZ6, SZ7, SZ8, bin_add, bin_sub, cmp_lt, cmp_le, cmp_gt, cmp_ge, cmp_eqi, cmp_nei, cmp_eqs, cmp_nes, cmp_eqb, cmp_neb, cmp_inns, cmp_nins, bi_int, bi_intb, bi_abs, bi_lens, bi_lent, bi_lenl, seqD_str, seqD_tup, seqD_lst, rev_str, neg_int, endR, beq_tt, beq_ff, beq_tf, beq_ft, Bool.and_true, Bool.and_false, Bool.true_and, Bool.false_and, Bool.or_true, Bool.or_false, Bool.true_or, Bool.false_or, e, tl]
theorem Vf_nil {a b : Fm} {x y : Nat} (v : Vf (.node a x y b)) : a = .nil ↔ b = .nil := by
  obtain ⟨va, vb, nx, ny, hl⟩ := v
  constructor
  · rintro rfl
    refine no_mem fun c hc => ?_
    rcases (hl c).mpr (.inl hc) with z | z
    · exact z
    · rcases (hl y).mpr (.inr rfl) with w | w
      · exact w
      · rw [z, ← w] at hc; exact ny hc
  · rintro rfl
    refine no_mem fun c hc => ?_
    rcases (hl c).mp (.inl hc) with z | z
    · exact z
    · rcases (hl x).mp (.inr rfl) with w | w
      · exact w
      · rw [z, ← w] at hc; exact nx hc
theorem l_plan_of_ok (hf : fs[X.l_plan_of]? = some (F_l_plan_of X)) : ∀ (n k : Nat) (f : Fm) (h : Hc), dpF f ≤ n → n ≤ 9 → Vf f → callF fs gl (k + n + 1) X.l_plan_of [fmD f] h = .ok (.str (planF f)) h := by
  have base : ∀ k h, callF fs gl (k + 1) X.l_plan_of [fmD .nil] h = .ok (.str []) h := fun k h => by
    rw [callF_in hf rfl]
    have c := cmp_eq_self (h := h) (d := .tup []) (n := 1) rfl (by omega)
    have tl := @trim_len h.length (.str []) h rfl
    simp only [F_l_plan_of, B_l_plan_of, fmD, startD, List.map_cons, List.map_nil, List.replicate, List.length_cons, List.length_nil, Nat.reduceAdd, Nat.reduceSub, List.cons_append, List.nil_append]
    simp -implicitDefEqProofs only [exs_cons, seqF, exs_nil, ex_asg, ex_par, ex_seti, ex_aug, ex_expr, ex_ret, ex_retn, ex_ite, ex_forr, ex_whil, ex_pass, ex_brk, ex_cont, ev_var, ev_cst, ev_glb, ev_bin, ev_cmp, ev_chain, ev_isn, ev_neg, ev_not, ev_bop, ev_ite, ev_tup, ev_lst, ev_new, ev_idx, ev_sl, ev_rev, ev_bi, ev_bi1, ev_mt, ev_call, ev_comp, ev_frz, evs_nil, evs_cons, evB_one, evB_cons, evO_none, evO_some, optF_int, evC_none, evC_some, evI_seq, evI_range1, evI_range2, evI_enum, evI_zip, rngF_int, rngF2_int, enuF_str, enuF_lst, permD, List.getElem?_cons_zero, List.getElem?_cons_succ, List.cons_append, List.nil_append, List.append_nil, List.set_cons_zero, List.set_cons_succ, Res.bind_ok, Res.calm_ok, tg_name, tg_tup1, tg_tup2, tg_tup3, tg_tup4, compF_ap, bodyF_ap, wipeD, List.length_cons, List.length_nil, List.zip_cons_cons, List.zip_nil_right, List.foldl_cons, List.foldl_nil, if_true, if_false, Bool.false_eq_true, Bool.true_eq_false, truth_bl, truth_str, truth_int, truth_lst, truth_tup, truth_non, Bool.not_true, Bool.not_false, beq_self_eq_true, Nat.zero_add, Nat.reduceAdd, Nat.reduceSub, SZ0, SZ1, SZ2, SZ3, SZ4, SZ5, SZ6, SZ7, SZ8, bin_add, bin_sub, cmp_lt, cmp_le, cmp_gt, cmp_ge, cmp_eqi, cmp_nei, cmp_eqs, cmp_nes, cmp_eqb, cmp_neb, cmp_inns, cmp_nins, bi_int, bi_intb, bi_abs, bi_lens, bi_lent, bi_lenl, seqD_str, seqD_tup, seqD_lst, rev_str, neg_int, endR, beq_tt, beq_ff, beq_tf, beq_ft, Bool.and_true, Bool.and_false, Bool.true_and, Bool.false_and, Bool.or_true, Bool.or_false, Bool.true_or, Bool.false_or, c, tl]
  intro n
  induction n with
  | zero =>
    intro k f h hd _ _
    cases f with
    | nil => exact base k h
    | node a x y b => simp [dpF] at hd
  | succ n ih =>
    intro k f h hd h9 v
    cases f with
    | nil => exact base _ h
    | node a x y b =>
      have vn := Vf_nil v
      have hd0 := hd
      simp only [dpF] at hd
      have e1 := ih k a h (by omega) (by omega) v.1
      have e2 := ih k b h (by omega) (by omega) v.2.1
      have ek : k + (n + 1) + 1 = k + n + 1 + 1 := by omega
      rw [ek, callF_in hf rfl]
      have pa := planF_small (f := a) (by omega)
      have pb := planF_small (f := b) (by omega)
      have c0 : cmpD .eq (.tup [fmD a, chD x, chD y, fmD b]) (.tup []) h = .ok (.bl false) h := cmp_fmD (h := h) (f := .node a x y b) (g := .nil) (by omega) (by simp [dpF])
      have ca : cmpD .eq (fmD a) (.tup []) h = .ok (.bl (decide (a = .nil))) h := cmp_fmD (h := h) (f := a) (g := .nil) (by omega) (by simp [dpF])
      have cb : cmpD .eq (fmD b) (.tup []) h = .ok (.bl (decide (b = .nil))) h := cmp_fmD (h := h) (f := b) (g := .nil) (by omega) (by simp [dpF])
      have i0 : idxD (.tup [fmD a, chD x, chD y, fmD b]) (.int 0) h = .ok (fmD a) h := idx_sq true (i := 0) rfl
      have i1 : idxD (.tup [fmD a, chD x, chD y, fmD b]) (.int 1) h = .ok (chD x) h := idx_sq true (i := 1) rfl
      have i2 : idxD (.tup [fmD a, chD x, chD y, fmD b]) (.int 2) h = .ok (chD y) h := idx_sq true (i := 2) rfl
      have i3 : idxD (.tup [fmD a, chD x, chD y, fmD b]) (.int 3) h = .ok (fmD b) h := idx_sq true (i := 3) rfl
      have a1 := adds_ok (h := h) (planF a) [x] (by simp; unfold SZ; omega)
      have a2 := adds_ok (h := h) (planF a ++ [x]) [y] (by simp; unfold SZ; omega)
      have a3 := adds_ok (h := h) (planF a ++ [x] ++ [y]) (planF b) (by simp; unfold SZ; omega)
      have tl := fun s => @trim_len h.length (.str s) h rfl
      by_cases z : a = .nil
      · have zb := vn.mp z
        subst z; subst zb
        simp only [F_l_plan_of, B_l_plan_of, fmD, startD, List.map_cons, List.map_nil, List.replicate, List.length_cons, List.length_nil, Nat.reduceAdd, Nat.reduceSub, List.cons_append, List.nil_append]
        simp only [fmD, decide_true] at c0 ca cb i0 i1 i3
        simp -implicitDefEqProofs only [exs_cons, seqF, exs_nil, ex_asg, ex_par, ex_seti, ex_aug, ex_expr, ex_ret, ex_retn, ex_ite, ex_forr, ex_whil, ex_pass, ex_brk, ex_cont, ev_var, ev_cst, ev_glb, ev_bin, ev_cmp, ev_chain, ev_isn, ev_neg, ev_not, ev_bop, ev_ite, ev_tup, ev_lst, ev_new, ev_idx, ev_sl, ev_rev, ev_bi, ev_bi1, ev_mt, ev_call, ev_comp, ev_frz, evs_nil, evs_cons, evB_one, evB_cons, evO_none, evO_some, optF_int, evC_none, evC_some, evI_seq, evI_range1, evI_range2, evI_enum, evI_zip, rngF_int, rngF2_int, enuF_str, enuF_lst, permD, List.getElem?_cons_zero, List.getElem?_cons_succ, List.cons_append, List.nil_append, List.append_nil, List.set_cons_zero, List.set_cons_succ, Res.bind_ok, Res.calm_ok, tg_name, tg_tup1, tg_tup2, tg_tup3, tg_tup4, compF_ap, bodyF_ap, wipeD, List.length_cons, List.length_nil, List.zip_cons_cons, List.zip_nil_right, List.foldl_cons, List.foldl_nil, if_true, if_false, Bool.false_eq_true, Bool.true_eq_false, truth_bl, truth_str, truth_int, truth_lst, truth_tup, truth_non, Bool.not_true, Bool.not_false, beq_self_eq_true, Nat.zero_add, Nat.reduceAdd, Nat.reduceSub, SZ0, SZ1, SZ2, SZ3, SZ4, SZ5, SZ6, SZ7, SZ8, bin_add, bin_sub, cmp_lt, cmp_le, cmp_gt, cmp_ge, cmp_eqi, cmp_nei, cmp_eqs, cmp_nes, cmp_eqb, cmp_neb, cmp_inns, cmp_nins, bi_int, bi_intb, bi_abs, bi_lens, bi_lent, bi_lenl, seqD_str, seqD_tup, seqD_lst, rev_str, neg_int, endR, beq_tt, beq_ff, beq_tf, beq_ft, Bool.and_true, Bool.and_false, Bool.true_and, Bool.false_and, Bool.or_true, Bool.or_false, Bool.true_or, Bool.false_or, c0, ca, cb, i0, i1, i3, decide_true, tl]
        rfl
      · have d1 := decide_eq_false z
        rw [d1] at ca
        simp only [F_l_plan_of, B_l_plan_of, fmD, startD, List.map_cons, List.map_nil, List.replicate, List.length_cons, List.length_nil, Nat.reduceAdd, Nat.reduceSub, List.cons_append, List.nil_append]
        simp -implicitDefEqProofs only [exs_cons, seqF, exs_nil, ex_asg, ex_par, ex_seti, ex_aug, ex_expr, ex_ret, ex_retn, ex_ite, ex_forr, ex_whil, ex_pass, ex_brk, ex_cont, ev_var, ev_cst, ev_glb, ev_bin, ev_cmp, ev_chain, ev_isn, ev_neg, ev_not, ev_bop, ev_ite, ev_tup, ev_lst, ev_new, ev_idx, ev_sl, ev_rev, ev_bi, ev_bi1, ev_mt, ev_call, ev_comp, ev_frz, evs_nil, evs_cons, evB_one, evB_cons, evO_none, evO_some, optF_int, evC_none, evC_some, evI_seq, evI_range1, evI_range2, evI_enum, evI_zip, rngF_int, rngF2_int, enuF_str, enuF_lst, permD, List.getElem?_cons_zero, List.getElem?_cons_succ, List.cons_append, List.nil_append, List.append_nil, List.set_cons_zero, List.set_cons_succ, Res.bind_ok, Res.calm_ok, tg_name, tg_tup1, tg_tup2, tg_tup3, tg_tup4, compF_ap, bodyF_ap, wipeD, List.length_cons, List.length_nil, List.zip_cons_cons, List.zip_nil_right, List.foldl_cons, List.foldl_nil, if_true, if_false, Bool.false_eq_true, Bool.true_eq_false, truth_bl, truth_str, truth_int, truth_lst, truth_tup, truth_non, Bool.not_true, Bool.not_false, beq_self_eq_true, Nat.zero_add, Nat.reduceAdd, Nat.reduceSub, SZ0, SZ1, SZ2, SZ3, SZ4, SZ5, SZ6, SZ7, SZ8, bin_add, bin_sub, cmp_lt, cmp_le, cmp_gt, cmp_ge, cmp_eqi, cmp_nei, cmp_eqs, cmp_nes, cmp_eqb, cmp_neb, cmp_inns, cmp_nins, bi_int, bi_intb, bi_abs, bi_lens, bi_lent, bi_lenl, seqD_str, seqD_tup, seqD_lst, rev_str, neg_int, endR, beq_tt, beq_ff, beq_tf, beq_ft, Bool.and_true, Bool.and_false, Bool.true_and, Bool.false_and, Bool.or_true, Bool.or_false, Bool.true_or, Bool.false_or, c0, ca, i0, i1, i2, i3, e1, e2, a1, a2, a3, tl]
        rw [planF, if_neg (planF_ne z)]
        simp
/-! ### forms with letters a to h -/
structure FF (f : Fm) : Prop where
  v : Vf f
  l : ∀ c, memF c f → c ∈ ABC
theorem FF.pl {f : Fm} (h : FF f) : Pl (planF f) := fun c hc => h.l c ((mem_planF h.v c).mp hc)
theorem FF.dp {f : Fm} (h : FF f) : dpF f ≤ 8 := by
  have := dpF_le 8 (planF f) (nl_Pl h.pl)
  rwa [form_planF h.v] at this
theorem FF.of {p : List Nat} (h : Pl p) : FF (form p) := ⟨form_ok p, fun c hc => h c ((mem_form c p).mp hc)⟩
theorem FF.nil : FF .nil := ⟨trivial, fun c h => False.elim h⟩
def prodF (f g : Fm) : Fm := form (planF f ++ planF g)
theorem FF.prod {f g : Fm} (hf : FF f) (hg : FF g) : FF (prodF f g) := FF.of (hf.pl.app hg.pl)
theorem FF.short {f : Fm} (h : FF f) : (planF f).length < 2 ^ 11 := planF_small (by have := h.dp; omega)
structure HasProd (fs : List MFn) (X : Ix) : Prop extends HasFormOf fs X where
  plan_by : fs[X.plan_by]? = some (F_plan_by X)
  plan_of : fs[X.plan_of]? = some (F_plan_of X)
  product : fs[X.product]? = some (F_product X)
theorem product_ok (H : HasProd fs X) (t u : Bool) (k : Nat) {f g : Fm} (h : Hc) (hf : FF f) (hg : FF g) (hc : h.all (belowC h.length) = true) : callF fs gl (k + 14) X.product [fmG t f, fmG u g] h = .ok (fmD (prodF f g)) h := by
  rw [callF_in H.product rfl]
  have e1 := plan_of_ok (gl := gl) H.plan_of H.plan_by t (k + 3) f h hf.dp
  have e2 := plan_of_ok (gl := gl) H.plan_of H.plan_by u (k + 3) g h hg.dp
  have s1 := hf.short
  have s2 := hg.short
  have a1 := adds_ok (h := h) (planF f) (planF g) (by unfold SZ; omega)
  have e3 := form_of_ok (gl := gl) H.toHasFormOf k (planF f ++ planF g) h (nl_Pl (hf.pl.app hg.pl)) (by simp; unfold SZ; omega) hc
  have tl := @trim_len h.length (fmD (prodF f g)) h rfl
  simp only [F_product, B_product, startD, List.map_cons, List.map_nil, List.replicate, List.length_cons, List.length_nil, Nat.reduceAdd, Nat.reduceSub, List.cons_append, List.nil_append]
  simp -implicitDefEqProofs only [exs_cons, seqF, exs_nil, ex_asg, ex_par, ex_seti, ex_aug, ex_expr, ex_ret, ex_retn, ex_ite, ex_forr, ex_whil, ex_pass, ex_brk, ex_cont, ev_var, ev_cst, ev_glb, ev_bin, ev_cmp, ev_chain, ev_isn, ev_neg, ev_not, ev_bop, ev_ite, ev_tup, ev_lst, ev_new, ev_idx, ev_sl, ev_rev, ev_bi, ev_bi1, ev_mt, ev_call, ev_comp, ev_frz, evs_nil, evs_cons, evB_one, evB_cons, evO_none, evO_some, optF_int, evC_none, evC_some, evI_seq, evI_range1, evI_range2, evI_enum, evI_zip, rngF_int, rngF2_int, enuF_str, enuF_lst, permD, List.getElem?_cons_zero, List.getElem?_cons_succ, List.cons_append, List.nil_append, List.append_nil, List.set_cons_zero, List.set_cons_succ, Res.bind_ok, Res.calm_ok, tg_name, tg_tup1, tg_tup2, tg_tup3, tg_tup4, compF_ap, bodyF_ap, wipeD, List.length_cons, List.length_nil, List.zip_cons_cons, List.zip_nil_right, List.foldl_cons, List.foldl_nil, if_true, if_false, Bool.false_eq_true, Bool.true_eq_false, truth_bl, truth_str, truth_int, truth_lst, truth_tup, truth_non, Bool.not_true, Bool.not_false, beq_self_eq_true, Nat.zero_add, Nat.reduceAdd, Nat.reduceSub, SZ0, SZ1, SZ2, SZ3, SZ4, SZ5, SZ6, SZ7, SZ8, bin_add, bin_sub, cmp_lt, cmp_le, cmp_gt, cmp_ge, cmp_eqi, cmp_nei, cmp_eqs, cmp_nes, cmp_eqb, cmp_neb, cmp_inns, cmp_nins, bi_int, bi_intb, bi_abs, bi_lens, bi_lent, bi_lenl, seqD_str, seqD_tup, seqD_lst, rev_str, neg_int, endR, beq_tt, beq_ff, beq_tf, beq_ft, Bool.and_true, Bool.and_false, Bool.true_and, Bool.false_and, Bool.or_true, Bool.or_false, Bool.true_or, Bool.false_or, e1, e2, a1, e3]
  exact tl
theorem seq_sq {h : Hc} (t : Bool) (xs : List Dv) : seqD (sqD t xs) h = .ok xs h := by cases t <;> rfl
theorem product_of_ok (H : HasProd fs X) (hp : fs[X.product_of]? = some (F_product_of X)) (t u : Bool) (k : Nat) (L : List Fm) (h : Hc) (hL : ∀ f ∈ L, FF f) (hc : h.all (belowC h.length) = true) : callF fs gl (k + 15) X.product_of [sqD t (L.map (fmG u))] h = .ok (fmD (L.foldl prodF .nil)) h := by
  rw [callF_in hp rfl]
  have loop : ∀ (M : List Fm) (acc : Fm) (j : Option Dv), FF acc → (∀ f ∈ M, FF f) → ∃ j', forL (bodyF (callF fs gl (k + 14)) gl (.name 2) (B_product_of_L1 X)) (M.map (fmG u)) [some (sqD t (L.map (fmG u))), some (fmD acc), j] h = .ok (.next [some (sqD t (L.map (fmG u))), some (fmD (M.foldl prodF acc)), j']) h := by
    intro M
    induction M with
    | nil => intro acc j _ _; exact ⟨j, rfl⟩
    | cons f M ih =>
      intro acc j ha hM
      have hf := hM f (.head _)
      obtain ⟨j', e⟩ := ih (prodF acc f) (some (fmG u f)) (ha.prod hf) fun g hg => hM g (.tail _ hg)
      refine ⟨j', ?_⟩
      have e1 := product_ok (gl := gl) H true u k h ha hf hc
      rw [fmG_true] at e1
      have step : bodyF (callF fs gl (k + 14)) gl (.name 2) (B_product_of_L1 X) (fmG u f) [some (sqD t (L.map (fmG u))), some (fmD acc), j] h = .ok (.next [some (sqD t (L.map (fmG u))), some (fmD (prodF acc f)), some (fmG u f)]) h := by
        simp -implicitDefEqProofs only [B_product_of_L1, exs_cons, seqF, exs_nil, ex_asg, ex_par, ex_seti, ex_aug, ex_expr, ex_ret, ex_retn, ex_ite, ex_forr, ex_whil, ex_pass, ex_brk, ex_cont, ev_var, ev_cst, ev_glb, ev_bin, ev_cmp, ev_chain, ev_isn, ev_neg, ev_not, ev_bop, ev_ite, ev_tup, ev_lst, ev_new, ev_idx, ev_sl, ev_rev, ev_bi, ev_bi1, ev_mt, ev_call, ev_comp, ev_frz, evs_nil, evs_cons, evB_one, evB_cons, evO_none, evO_some, optF_int, evC_none, evC_some, evI_seq, evI_range1, evI_range2, evI_enum, evI_zip, rngF_int, rngF2_int, enuF_str, enuF_lst, permD, List.getElem?_cons_zero, List.getElem?_cons_succ, List.cons_append, List.nil_append, List.append_nil, List.set_cons_zero, List.set_cons_succ, Res.bind_ok, Res.calm_ok, tg_name, tg_tup1, tg_tup2, tg_tup3, tg_tup4, compF_ap, bodyF_ap, wipeD, List.length_cons, List.length_nil, List.zip_cons_cons, List.zip_nil_right, List.foldl_cons, List.foldl_nil, if_true, if_false, Bool.false_eq_true, Bool.true_eq_false, truth_bl, truth_str, truth_int, truth_lst, truth_tup, truth_non, Bool.not_true, Bool.not_false, beq_self_eq_true, Nat.zero_add, Nat.reduceAdd, Nat.reduceSub, SZ0, SZ1, SZ2, SZ3, SZ4, SZ5, SZ6, SZ7, SZ8, bin_add, bin_sub, cmp_lt, cmp_le, cmp_gt, cmp_ge, cmp_eqi, cmp_nei, cmp_eqs, cmp_nes, cmp_eqb, cmp_neb, cmp_inns, cmp_nins, bi_int, bi_intb, bi_abs, bi_lens, bi_lent, bi_lenl, seqD_str, seqD_tup, seqD_lst, rev_str, neg_int, endR, beq_tt, beq_ff, beq_tf, beq_ft, Bool.and_true, Bool.and_false, Bool.true_and, Bool.false_and, Bool.or_true, Bool.or_false, Bool.true_or, Bool.false_or, e1]
      rw [List.map_cons, forL_next step, e]
      rfl
  obtain ⟨j', e⟩ := loop L .nil none .nil hL
  have e' : forL (bodyF (callF fs gl (k + 14)) gl (.name 2) (B_product_of_L1 X)) (L.map (fmG u)) [some (sqD t (L.map (fmG u))), some (.tup []), none] h = .ok (.next [some (sqD t (L.map (fmG u))), some (fmD (L.foldl prodF .nil)), j']) h := e
  have tl := @trim_len h.length (fmD (L.foldl prodF .nil)) h rfl
  simp only [F_product_of, B_product_of, startD, List.map_cons, List.map_nil, List.replicate, List.length_cons, List.length_nil, Nat.reduceAdd, Nat.reduceSub, List.cons_append, List.nil_append]
  simp -implicitDefEqProofs only [exs_cons, seqF, exs_nil, ex_asg, ex_par, ex_seti, ex_aug, ex_expr, ex_ret, ex_retn, ex_ite, ex_forr, ex_whil, ex_pass, ex_brk, ex_cont, ev_var, ev_cst, ev_glb, ev_bin, ev_cmp, ev_chain, ev_isn, ev_neg, ev_not, ev_bop, ev_ite, ev_tup, ev_lst, ev_new, ev_idx, ev_sl, ev_rev, ev_bi, ev_bi1, ev_mt, ev_call, ev_comp, ev_frz, evs_nil, evs_cons, evB_one, evB_cons, evO_none, evO_some, optF_int, evC_none, evC_some, evI_seq, evI_range1, evI_range2, evI_enum, evI_zip, rngF_int, rngF2_int, enuF_str, enuF_lst, permD, List.getElem?_cons_zero, List.getElem?_cons_succ, List.cons_append, List.nil_append, List.append_nil, List.set_cons_zero, List.set_cons_succ, Res.bind_ok, Res.calm_ok, tg_name, tg_tup1, tg_tup2, tg_tup3, tg_tup4, compF_ap, bodyF_ap, wipeD, List.length_cons, List.length_nil, List.zip_cons_cons, List.zip_nil_right, List.foldl_cons, List.foldl_nil, if_true, if_false, Bool.false_eq_true, Bool.true_eq_false, truth_bl, truth_str, truth_int, truth_lst, truth_tup, truth_non, Bool.not_true, Bool.not_false, beq_self_eq_true, Nat.zero_add, Nat.reduceAdd, Nat.reduceSub, SZ0, SZ1, SZ2, SZ3, SZ4, SZ5, SZ6, SZ7, SZ8, bin_add, bin_sub, cmp_lt, cmp_le, cmp_gt, cmp_ge, cmp_eqi, cmp_nei, cmp_eqs, cmp_nes, cmp_eqb, cmp_neb, cmp_inns, cmp_nins, bi_int, bi_intb, bi_abs, bi_lens, bi_lent, bi_lenl, seqD_str, seqD_tup, seqD_lst, rev_str, neg_int, endR, beq_tt, beq_ff, beq_tf, beq_ft, Bool.and_true, Bool.and_false, Bool.true_and, Bool.false_and, Bool.or_true, Bool.or_false, Bool.true_or, Bool.false_or, seq_sq, e', tl]
theorem prod_forms (ps : List (List Nat)) : ∀ acc : List Nat, (ps.map form).foldl prodF (form acc) = form (acc ++ ps.flatten) := by
  induction ps with
  | nil => intro acc; simp
  | cons p ps ih =>
    intro acc
    rw [List.map_cons, List.foldl_cons]
    have : prodF (form acc) (form p) = form (acc ++ p) := form_prod acc p
    rw [this, ih]
    simp
/-! ### lists for tuples, tuples for lists -/
mutual
def toL : Dv → Dv
  | .tup xs => .lst (toLs xs)
  | .lst xs => .lst (toLs xs)
  | .non => .non
  | .bl b => .bl b
  | .int i => .int i
  | .str s => .str s
  | .loc n => .loc n
def toLs : List Dv → List Dv
  | [] => []
  | x :: xs => toL x :: toLs xs
end
theorem toLs_map : ∀ xs : List Dv, toLs xs = xs.map toL
  | [] => rfl
  | x :: xs => by rw [toLs, toLs_map xs]; rfl
theorem toL_fmD : ∀ f, toL (fmD f) = fmG false f
  | .nil => rfl
  | .node a x y b => by
    rw [fmD, toL, toLs, toLs, toLs, toLs, toLs, toL_fmD a, toL_fmD b]
    rfl
theorem l_lists_ok (hf : fs[X.l_lists]? = some (F_l_lists X)) : ∀ (n k : Nat) (d : Dv) (h : Hc), dp d ≤ n → wf d = true → callF fs gl (k + n + 1) X.l_lists [d] h = .ok (toL d) h := by
  intro n
  induction n with
  | zero =>
    intro k d h hd hw
    rw [callF_in hf rfl]
    have tl := fun v => @trim_len h.length v h rfl
    cases d with
    | loc m => cases hw
    | tup xs => simp [dp] at hd
    | lst xs => simp [dp] at hd
    | _ =>
      simp only [F_l_lists, B_l_lists, startD, List.map_cons, List.map_nil, List.replicate, List.length_cons, List.length_nil, Nat.reduceAdd, Nat.reduceSub, List.cons_append, List.nil_append]
      simp -implicitDefEqProofs only [exs_cons, seqF, exs_nil, ex_asg, ex_par, ex_seti, ex_aug, ex_expr, ex_ret, ex_retn, ex_ite, ex_forr, ex_whil, ex_pass, ex_brk, ex_cont, ev_var, ev_cst, ev_glb, ev_bin, ev_cmp, ev_chain, ev_isn, ev_neg, ev_not, ev_bop, ev_ite, ev_tup, ev_lst, ev_new, ev_idx, ev_sl, ev_rev, ev_bi, ev_bi1, ev_mt, ev_call, ev_comp, ev_frz, evs_nil, evs_cons, evB_one, evB_cons, evO_none, evO_some, optF_int, evC_none, evC_some, evI_seq, evI_range1, evI_range2, evI_enum, evI_zip, rngF_int, rngF2_int, enuF_str, enuF_lst, permD, List.getElem?_cons_zero, List.getElem?_cons_succ, List.cons_append, List.nil_append, List.append_nil, List.set_cons_zero, List.set_cons_succ, Res.bind_ok, Res.calm_ok, tg_name, tg_tup1, tg_tup2, tg_tup3, tg_tup4, compF_ap, bodyF_ap, wipeD, List.length_cons, List.length_nil, List.zip_cons_cons, List.zip_nil_right, List.foldl_cons, List.foldl_nil, if_true, if_false, Bool.false_eq_true, Bool.true_eq_false, truth_bl, truth_str, truth_int, truth_lst, truth_tup, truth_non, Bool.not_true, Bool.not_false, beq_self_eq_true, Nat.zero_add, Nat.reduceAdd, Nat.reduceSub, SZ0, SZ1, SZ2, SZ3, SZ4, SZ5, SZ6, SZ7, SZ8, bin_add, bin_sub, cmp_lt, cmp_le, cmp_gt, cmp_ge, cmp_eqi, cmp_nei, cmp_eqs, cmp_nes, cmp_eqb, cmp_neb, cmp_inns, cmp_nins, bi_int, bi_intb, bi_abs, bi_lens, bi_lent, bi_lenl, seqD_str, seqD_tup, seqD_lst, rev_str, neg_int, endR, beq_tt, beq_ff, beq_tf, beq_ft, Bool.and_true, Bool.and_false, Bool.true_and, Bool.false_and, Bool.or_true, Bool.or_false, Bool.true_or, Bool.false_or, bi_isi2 (isTy_str _ _) (isTy_str _ _), bi_isi2 (isTy_int _ _) (isTy_int _ _), bi_isi2 (isTy_bl _ _) (isTy_bl _ _), bi_isi2 (isTy_non _) (isTy_non _), reduceCtorEq, decide_false, decide_true, or_false, or_true, tl, toL]
  | succ n ih =>
    intro k d h hd hw
    rw [callF_in hf rfl]
    have tl := fun v => @trim_len h.length v h rfl
    have list : ∀ xs : List Dv, (∀ x ∈ xs, wf x = true) → (∀ x ∈ xs, dp x ≤ n) → compL (compF (callF fs gl (k + (n + 1))) gl (.name 1) [1] .none (.call X.l_lists (.cons (.var 1) .nil) .nil [0]) [some d, none]) xs h = .ok (toLs xs) h := fun xs h2 h3 => by
      have := comp_map (f := compF (callF fs gl (k + (n + 1))) gl (.name 1) [1] .none (.call X.l_lists (.cons (.var 1) .nil) .nil [0]) [some d, none]) (h := h) id toL xs fun x hx => by
        have e := ih k x h (h3 x hx) (h2 x hx)
        have ek : k + (n + 1) = k + n + 1 := by omega
        simp -implicitDefEqProofs only [exs_cons, seqF, exs_nil, ex_asg, ex_par, ex_seti, ex_aug, ex_expr, ex_ret, ex_retn, ex_ite, ex_forr, ex_whil, ex_pass, ex_brk, ex_cont, ev_var, ev_cst, ev_glb, ev_bin, ev_cmp, ev_chain, ev_isn, ev_neg, ev_not, ev_bop, ev_ite, ev_tup, ev_lst, ev_new, ev_idx, ev_sl, ev_rev, ev_bi, ev_bi1, ev_mt, ev_call, ev_comp, ev_frz, evs_nil, evs_cons, evB_one, evB_cons, evO_none, evO_some, optF_int, evC_none, evC_some, evI_seq, evI_range1, evI_range2, evI_enum, evI_zip, rngF_int, rngF2_int, enuF_str, enuF_lst, permD, List.getElem?_cons_zero, List.getElem?_cons_succ, List.cons_append, List.nil_append, List.append_nil, List.set_cons_zero, List.set_cons_succ, Res.bind_ok, Res.calm_ok, tg_name, tg_tup1, tg_tup2, tg_tup3, tg_tup4, compF_ap, bodyF_ap, wipeD, List.length_cons, List.length_nil, List.zip_cons_cons, List.zip_nil_right, List.foldl_cons, List.foldl_nil, if_true, if_false, Bool.false_eq_true, Bool.true_eq_false, truth_bl, truth_str, truth_int, truth_lst, truth_tup, truth_non, Bool.not_true, Bool.not_false, beq_self_eq_true, Nat.zero_add, Nat.reduceAdd, Nat.reduceSub, SZ0, SZ1, SZ2, SZ3, SZ4, SZ5, SZ6, SZ7, SZ8, bin_add, bin_sub, cmp_lt, cmp_le, cmp_gt, cmp_ge, cmp_eqi, cmp_nei, cmp_eqs, cmp_nes, cmp_eqb, cmp_neb, cmp_inns, cmp_nins, bi_int, bi_intb, bi_abs, bi_lens, bi_lent, bi_lenl, seqD_str, seqD_tup, seqD_lst, rev_str, neg_int, endR, beq_tt, beq_ff, beq_tf, beq_ft, Bool.and_true, Bool.and_false, Bool.true_and, Bool.false_and, Bool.or_true, Bool.or_false, Bool.true_or, Bool.false_or, id, ek, e]
      rwa [List.map_id, ← toLs_map] at this
    cases d with
    | loc m => cases hw
    | tup xs =>
      simp only [wf, Bool.and_eq_true] at hw
      simp only [dp] at hd
      have e := list xs (wfs_mem hw.2) (dps_mem (by omega))
      have sz : SZok (toLs xs).length = true := by rw [toLs_map, List.length_map]; exact hw.1
      simp only [F_l_lists, B_l_lists, startD, List.map_cons, List.map_nil, List.replicate, List.length_cons, List.length_nil, Nat.reduceAdd, Nat.reduceSub, List.cons_append, List.nil_append]
      simp -implicitDefEqProofs only [exs_cons, seqF, exs_nil, ex_asg, ex_par, ex_seti, ex_aug, ex_expr, ex_ret, ex_retn, ex_ite, ex_forr, ex_whil, ex_pass, ex_brk, ex_cont, ev_var, ev_cst, ev_glb, ev_bin, ev_cmp, ev_chain, ev_isn, ev_neg, ev_not, ev_bop, ev_ite, ev_tup, ev_lst, ev_new, ev_idx, ev_sl, ev_rev, ev_bi, ev_bi1, ev_mt, ev_call, ev_comp, ev_frz, evs_nil, evs_cons, evB_one, evB_cons, evO_none, evO_some, optF_int, evC_none, evC_some, evI_seq, evI_range1, evI_range2, evI_enum, evI_zip, rngF_int, rngF2_int, enuF_str, enuF_lst, permD, List.getElem?_cons_zero, List.getElem?_cons_succ, List.cons_append, List.nil_append, List.append_nil, List.set_cons_zero, List.set_cons_succ, Res.bind_ok, Res.calm_ok, tg_name, tg_tup1, tg_tup2, tg_tup3, tg_tup4, compF_ap, bodyF_ap, wipeD, List.length_cons, List.length_nil, List.zip_cons_cons, List.zip_nil_right, List.foldl_cons, List.foldl_nil, if_true, if_false, Bool.false_eq_true, Bool.true_eq_false, truth_bl, truth_str, truth_int, truth_lst, truth_tup, truth_non, Bool.not_true, Bool.not_false, beq_self_eq_true, Nat.zero_add, Nat.reduceAdd, Nat.reduceSub, SZ0, SZ1, SZ2, SZ3, SZ4, SZ5, SZ6, SZ7, SZ8, bin_add, bin_sub, cmp_lt, cmp_le, cmp_gt, cmp_ge, cmp_eqi, cmp_nei, cmp_eqs, cmp_nes, cmp_eqb, cmp_neb, cmp_inns, cmp_nins, bi_int, bi_intb, bi_abs, bi_lens, bi_lent, bi_lenl, seqD_str, seqD_tup, seqD_lst, rev_str, neg_int, endR, beq_tt, beq_ff, beq_tf, beq_ft, Bool.and_true, Bool.and_false, Bool.true_and, Bool.false_and, Bool.or_true, Bool.or_false, Bool.true_or, Bool.false_or, bi_isi2 (isTy_tup _ _) (isTy_tup _ _), reduceCtorEq, decide_false, decide_true, or_false, or_true, e, sz, tl, toL]
    | lst xs =>
      simp only [wf, Bool.and_eq_true] at hw
      simp only [dp] at hd
      have e := list xs (wfs_mem hw.2) (dps_mem (by omega))
      have sz : SZok (toLs xs).length = true := by rw [toLs_map, List.length_map]; exact hw.1
      simp only [F_l_lists, B_l_lists, startD, List.map_cons, List.map_nil, List.replicate, List.length_cons, List.length_nil, Nat.reduceAdd, Nat.reduceSub, List.cons_append, List.nil_append]
      simp -implicitDefEqProofs only [exs_cons, seqF, exs_nil, ex_asg, ex_par, ex_seti, ex_aug, ex_expr, ex_ret, ex_retn, ex_ite, ex_forr, ex_whil, ex_pass, ex_brk, ex_cont, ev_var, ev_cst, ev_glb, ev_bin, ev_cmp, ev_chain, ev_isn, ev_neg, ev_not, ev_bop, ev_ite, ev_tup, ev_lst, ev_new, ev_idx, ev_sl, ev_rev, ev_bi, ev_bi1, ev_mt, ev_call, ev_comp, ev_frz, evs_nil, evs_cons, evB_one, evB_cons, evO_none, evO_some, optF_int, evC_none, evC_some, evI_seq, evI_range1, evI_range2, evI_enum, evI_zip, rngF_int, rngF2_int, enuF_str, enuF_lst, permD, List.getElem?_cons_zero, List.getElem?_cons_succ, List.cons_append, List.nil_append, List.append_nil, List.set_cons_zero, List.set_cons_succ, Res.bind_ok, Res.calm_ok, tg_name, tg_tup1, tg_tup2, tg_tup3, tg_tup4, compF_ap, bodyF_ap, wipeD, List.length_cons, List.length_nil, List.zip_cons_cons, List.zip_nil_right, List.foldl_cons, List.foldl_nil, if_true, if_false, Bool.false_eq_true, Bool.true_eq_false, truth_bl, truth_str, truth_int, truth_lst, truth_tup, truth_non, Bool.not_true, Bool.not_false, beq_self_eq_true, Nat.zero_add, Nat.reduceAdd, Nat.reduceSub, SZ0, SZ1, SZ2, SZ3, SZ4, SZ5, SZ6, SZ7, SZ8, bin_add, bin_sub, cmp_lt, cmp_le, cmp_gt, cmp_ge, cmp_eqi, cmp_nei, cmp_eqs, cmp_nes, cmp_eqb, cmp_neb, cmp_inns, cmp_nins, bi_int, bi_intb, bi_abs, bi_lens, bi_lent, bi_lenl, seqD_str, seqD_tup, seqD_lst, rev_str, neg_int, endR, beq_tt, beq_ff, beq_tf, beq_ft, Bool.and_true, Bool.and_false, Bool.true_and, Bool.false_and, Bool.or_true, Bool.or_false, Bool.true_or, Bool.false_or, bi_isi2 (isTy_lst _ _) (isTy_lst _ _), reduceCtorEq, decide_false, decide_true, or_false, or_true, e, sz, tl, toL]
    | _ =>
      simp only [F_l_lists, B_l_lists, startD, List.map_cons, List.map_nil, List.replicate, List.length_cons, List.length_nil, Nat.reduceAdd, Nat.reduceSub, List.cons_append, List.nil_append]
      simp -implicitDefEqProofs only [exs_cons, seqF, exs_nil, ex_asg, ex_par, ex_seti, ex_aug, ex_expr, ex_ret, ex_retn, ex_ite, ex_forr, ex_whil, ex_pass, ex_brk, ex_cont, ev_var, ev_cst, ev_glb, ev_bin, ev_cmp, ev_chain, ev_isn, ev_neg, ev_not, ev_bop, ev_ite, ev_tup, ev_lst, ev_new, ev_idx, ev_sl, ev_rev, ev_bi, ev_bi1, ev_mt, ev_call, ev_comp, ev_frz, evs_nil, evs_cons, evB_one, evB_cons, evO_none, evO_some, optF_int, evC_none, evC_some, evI_seq, evI_range1, evI_range2, evI_enum, evI_zip, rngF_int, rngF2_int, enuF_str, enuF_lst, permD, List.getElem?_cons_zero, List.getElem?_cons_succ, List.cons_append, List.nil_append, List.append_nil, List.set_cons_zero, List.set_cons_succ, Res.bind_ok, Res.calm_ok, tg_name, tg_tup1, tg_tup2, tg_tup3, tg_tup4, compF_ap, bodyF_ap, wipeD, List.length_cons, List.length_nil, List.zip_cons_cons, List.zip_nil_right, List.foldl_cons, List.foldl_nil, if_true, if_false, Bool.false_eq_true, Bool.true_eq_false, truth_bl, truth_str, truth_int, truth_lst, truth_tup, truth_non, Bool.not_true, Bool.not_false, beq_self_eq_true, Nat.zero_add, Nat.reduceAdd, Nat.reduceSub, SZ0, SZ1, SZ2, SZ3, SZ4, SZ5, SZ6, SZ7, SZ8, bin_add, bin_sub, cmp_lt, cmp_le, cmp_gt, cmp_ge, cmp_eqi, cmp_nei, cmp_eqs, cmp_nes, cmp_eqb, cmp_neb, cmp_inns, cmp_nins, bi_int, bi_intb, bi_abs, bi_lens, bi_lent, bi_lenl, seqD_str, seqD_tup, seqD_lst, rev_str, neg_int, endR, beq_tt, beq_ff, beq_tf, beq_ft, Bool.and_true, Bool.and_false, Bool.true_and, Bool.false_and, Bool.or_true, Bool.or_false, Bool.true_or, Bool.false_or, bi_isi2 (isTy_str _ _) (isTy_str _ _), bi_isi2 (isTy_int _ _) (isTy_int _ _), bi_isi2 (isTy_bl _ _) (isTy_bl _ _), bi_isi2 (isTy_non _) (isTy_non _), reduceCtorEq, decide_false, decide_true, or_false, or_true, tl, toL]
/-! ### drawn forms -/
theorem l_less_ok (hf : fs[X.l_less]? = some (F_l_less X)) (k : Nat) (p : List Nat) (c : Nat) (h : Hc) (hl : p.length < SZ) : callF fs gl (k + 1) X.l_less [.str p, chD c] h = .ok (.str (p.filter fun x => !(x == c))) h := by
  rw [callF_in hf rfl]
  have fl : (p.filter fun x => !(x == c)).length ≤ p.length := List.length_filter_le ..
  have cm : compL (compF (callF fs gl k) gl (.name 2) [2] (.some (.cmp .ne (.var 2) (.var 1))) (.var 2) [some (.str p), some (chD c), none]) (p.map chD) h = .ok ((p.filter fun x => !(x == c)).map chD) h := by
    refine comp_filter chD (fun x => !(x == c)) chD p fun x hx => ?_
    have : ([x] == [c]) = (x == c) := by simp
    simp -implicitDefEqProofs only [exs_cons, seqF, exs_nil, ex_asg, ex_par, ex_seti, ex_aug, ex_expr, ex_ret, ex_retn, ex_ite, ex_forr, ex_whil, ex_pass, ex_brk, ex_cont, ev_var, ev_cst, ev_glb, ev_bin, ev_cmp, ev_chain, ev_isn, ev_neg, ev_not, ev_bop, ev_ite, ev_tup, ev_lst, ev_new, ev_idx, ev_sl, ev_rev, ev_bi, ev_bi1, ev_mt, ev_call, ev_comp, ev_frz, evs_nil, evs_cons, evB_one, evB_cons, evO_none, evO_some, optF_int, evC_none, evC_some, evI_seq, evI_range1, evI_range2, evI_enum, evI_zip, rngF_int, rngF2_int, enuF_str, enuF_lst, permD, List.getElem?_cons_zero, List.getElem?_cons_succ, List.cons_append, List.nil_append, List.append_nil, List.set_cons_zero, List.set_cons_succ, Res.bind_ok, Res.calm_ok, tg_name, tg_tup1, tg_tup2, tg_tup3, tg_tup4, compF_ap, bodyF_ap, wipeD, List.length_cons, List.length_nil, List.zip_cons_cons, List.zip_nil_right, List.foldl_cons, List.foldl_nil, if_true, if_false, Bool.false_eq_true, Bool.true_eq_false, truth_bl, truth_str, truth_int, truth_lst, truth_tup, truth_non, Bool.not_true, Bool.not_false, beq_self_eq_true, Nat.zero_add, Nat.reduceAdd, Nat.reduceSub, SZ0, SZ1, SZ2, SZ3, SZ4, SZ5, SZ6, SZ7, SZ8, bin_add, bin_sub, cmp_lt, cmp_le, cmp_gt, cmp_ge, cmp_eqi, cmp_nei, cmp_eqs, cmp_nes, cmp_eqb, cmp_neb, cmp_inns, cmp_nins, bi_int, bi_intb, bi_abs, bi_lens, bi_lent, bi_lenl, seqD_str, seqD_tup, seqD_lst, rev_str, neg_int, endR, beq_tt, beq_ff, beq_tf, beq_ft, Bool.and_true, Bool.and_false, Bool.true_and, Bool.false_and, Bool.or_true, Bool.or_false, Bool.true_or, Bool.false_or, this]
    cases x == c <;> rfl
  have jn := join1_ok (h := h) (cs := p.filter fun x => !(x == c)) (by omega)
  have tl := @trim_len h.length (.str (p.filter fun x => !(x == c))) h rfl
  simp only [F_l_less, B_l_less, startD, List.map_cons, List.map_nil, List.replicate, List.length_cons, List.length_nil, Nat.reduceAdd, Nat.reduceSub, List.cons_append, List.nil_append]
  simp -implicitDefEqProofs only [exs_cons, seqF, exs_nil, ex_asg, ex_par, ex_seti, ex_aug, ex_expr, ex_ret, ex_retn, ex_ite, ex_forr, ex_whil, ex_pass, ex_brk, ex_cont, ev_var, ev_cst, ev_glb, ev_bin, ev_cmp, ev_chain, ev_isn, ev_neg, ev_not, ev_bop, ev_ite, ev_tup, ev_lst, ev_new, ev_idx, ev_sl, ev_rev, ev_bi, ev_bi1, ev_mt, ev_call, ev_comp, ev_frz, evs_nil, evs_cons, evB_one, evB_cons, evO_none, evO_some, optF_int, evC_none, evC_some, evI_seq, evI_range1, evI_range2, evI_enum, evI_zip, rngF_int, rngF2_int, enuF_str, enuF_lst, permD, List.getElem?_cons_zero, List.getElem?_cons_succ, List.cons_append, List.nil_append, List.append_nil, List.set_cons_zero, List.set_cons_succ, Res.bind_ok, Res.calm_ok, tg_name, tg_tup1, tg_tup2, tg_tup3, tg_tup4, compF_ap, bodyF_ap, wipeD, List.length_cons, List.length_nil, List.zip_cons_cons, List.zip_nil_right, List.foldl_cons, List.foldl_nil, if_true, if_false, Bool.false_eq_true, Bool.true_eq_false, truth_bl, truth_str, truth_int, truth_lst, truth_tup, truth_non, Bool.not_true, Bool.not_false, beq_self_eq_true, Nat.zero_add, Nat.reduceAdd, Nat.reduceSub, SZ0, SZ1, SZ2, SZ3, SZ4, SZ5, SZ6, SZ7, SZ8, bin_add, bin_sub, cmp_lt, cmp_le, cmp_gt, cmp_ge, cmp_eqi, cmp_nei, cmp_eqs, cmp_nes, cmp_eqb, cmp_neb, cmp_inns, cmp_nins, bi_int, bi_intb, bi_abs, bi_lens, bi_lent, bi_lenl, seqD_str, seqD_tup, seqD_lst, rev_str, neg_int, endR, beq_tt, beq_ff, beq_tf, beq_ft, Bool.and_true, Bool.and_false, Bool.true_and, Bool.false_and, Bool.or_true, Bool.or_false, Bool.true_or, Bool.false_or, cm, SZ_if (show ((p.filter fun x => !(x == c)).map chD).length ≤ SZ by simp only [List.length_map]; omega), mtOk_join, jn, tl]
theorem len_less {p : List Nat} (n : p.Nodup) {c : Nat} (hc : c ∈ p) : (p.filter fun x => !(x == c)).length + 1 = p.length := by
  induction p with
  | nil => cases hc
  | cons x p ih =>
    have n2 := List.nodup_cons.mp n
    by_cases z : x = c
    · subst z
      rw [List.filter_cons_of_neg (by simp), List.filter_eq_self.mpr]
      · simp
      · intro y hy
        have : y ≠ x := by rintro rfl; exact n2.1 hy
        simpa using this
    · rw [List.filter_cons_of_pos (by simpa using z)]
      rcases List.mem_cons.mp hc with rfl | hc
      · exact absurd rfl z
      · have := ih n2.2 hc
        simp; omega
theorem mem_less {p : List Nat} {c d : Nat} : d ∈ (p.filter fun x => !(x == c)) ↔ d ∈ p ∧ d ≠ c := by simp
theorem drawn_form_bx (hf : fs[X.l_drawn_form]? = some (F_l_drawn_form X)) (hls : fs[X.l_less]? = some (F_l_less X)) (ht : fs[X.l_take]? = some (F_l_take X)) (ho : fs[X.l_of]? = some (F_l_of X)) :
    ∀ (m k N n : Nat) (names : List Nat) (h : Hc), names.length = m → m ≤ 8 → names.Nodup → BX N h n → N + 4 ^ m < 2 ^ 51 →
    ∃ (f : Fm) (h' : Hc), callF fs gl (k + m + 3) X.l_drawn_form [.loc n, .str names] h = .ok (fmD f) h' ∧ Vf f ∧ (∀ c, memF c f ↔ c ∈ names) ∧ BX (N + 4 ^ m) h' n ∧ (h'.length = h.length ∧ Fr n h h') := by
  have ht' : fs[X.l_take]? = some fTake := ht
  have ho' : fs[X.l_of]? = some (fOf X.l_take) := ho
  intro m
  induction m with
  | zero =>
    intro k N n names h hl _ _ bx hN
    have : names = [] := List.length_eq_zero_iff.mp hl
    subst this
    refine ⟨.nil, h, ?_, trivial, fun c => by simp [memF], bx.le (by omega), rfl, .refl⟩
    rw [callF_in hf rfl]
    have d : (([] : List Nat) == ([] : List Nat)) = true := rfl
    have tl := @trim_len h.length (.tup []) h rfl
    simp only [F_l_drawn_form, B_l_drawn_form, startD, List.map_cons, List.map_nil, List.replicate, List.length_cons, List.length_nil, Nat.reduceAdd, Nat.reduceSub, List.cons_append, List.nil_append]
    simp -implicitDefEqProofs only [exs_cons, seqF, exs_nil, ex_asg, ex_par, ex_seti, ex_aug, ex_expr, ex_ret, ex_retn, ex_ite, ex_forr, ex_whil, ex_pass, ex_brk, ex_cont, ev_var, ev_cst, ev_glb, ev_bin, ev_cmp, ev_chain, ev_isn, ev_neg, ev_not, ev_bop, ev_ite, ev_tup, ev_lst, ev_new, ev_idx, ev_sl, ev_rev, ev_bi, ev_bi1, ev_mt, ev_call, ev_comp, ev_frz, evs_nil, evs_cons, evB_one, evB_cons, evO_none, evO_some, optF_int, evC_none, evC_some, evI_seq, evI_range1, evI_range2, evI_enum, evI_zip, rngF_int, rngF2_int, enuF_str, enuF_lst, permD, List.getElem?_cons_zero, List.getElem?_cons_succ, List.cons_append, List.nil_append, List.append_nil, List.set_cons_zero, List.set_cons_succ, Res.bind_ok, Res.calm_ok, tg_name, tg_tup1, tg_tup2, tg_tup3, tg_tup4, compF_ap, bodyF_ap, wipeD, List.length_cons, List.length_nil, List.zip_cons_cons, List.zip_nil_right, List.foldl_cons, List.foldl_nil, if_true, if_false, Bool.false_eq_true, Bool.true_eq_false, truth_bl, truth_str, truth_int, truth_lst, truth_tup, truth_non, Bool.not_true, Bool.not_false, beq_self_eq_true, Nat.zero_add, Nat.reduceAdd, Nat.reduceSub, SZ0, SZ1, SZ2, SZ3, SZ4, SZ5, SZ6, SZ7, SZ8, bin_add, bin_sub, cmp_lt, cmp_le, cmp_gt, cmp_ge, cmp_eqi, cmp_nei, cmp_eqs, cmp_nes, cmp_eqb, cmp_neb, cmp_inns, cmp_nins, bi_int, bi_intb, bi_abs, bi_lens, bi_lent, bi_lenl, seqD_str, seqD_tup, seqD_lst, rev_str, neg_int, endR, beq_tt, beq_ff, beq_tf, beq_ft, Bool.and_true, Bool.and_false, Bool.true_and, Bool.false_and, Bool.or_true, Bool.or_false, Bool.true_or, Bool.false_or, d]
    exact tl
  | succ m ih =>
    intro k N n names h hl h8 nd bx hN
    have hne : names ≠ [] := fun z => by rw [z] at hl; cases hl
    have d : (names == ([] : List Nat)) = false := by simpa using hne
    have p4 : 4 ^ (m + 1) = 4 * 4 ^ m := by rw [Nat.pow_succ]; omega
    have p1 : 1 ≤ 4 ^ m := Nat.one_le_pow _ _ (by decide)
    have p8 : 4 ^ m ≤ 4 ^ 8 := Nat.pow_le_pow_right (by decide) (by omega)
    obtain ⟨x, h1, e1, x1, b1, l1⟩ := of_bxs (gl := gl) (k := k + m + 1) ho' ht' (s := names) bx (by omega) hne (by omega)
    obtain ⟨y, h2, e2, y1, b2, l2⟩ := of_bxs (gl := gl) (k := k + m + 1) ho' ht' (s := names) b1 (by omega) hne (by omega)
    have f1 := l_less_ok (gl := gl) hls (k + m + 2) names x h2 (by unfold SZ; omega)
    have lx := len_less nd x1
    have ly := len_less nd y1
    obtain ⟨fa, h3, e3, va, ma, b3, l3⟩ := ih k (N + 2) n (names.filter fun z => !(z == x)) h2 (by omega) (by omega) (nd.filter _) b2 (by omega)
    have f2 := l_less_ok (gl := gl) hls (k + m + 2) names y h3 (by unfold SZ; omega)
    obtain ⟨fb, h4, e4, vb, mb, b4, l4⟩ := ih k (N + 2 + 4 ^ m) n (names.filter fun z => !(z == y)) h3 (by omega) (by omega) (nd.filter _) b3 (by omega)
    refine ⟨.node fa x y fb, h4, ?_, ⟨va, vb, fun z => ?_, fun z => ?_, fun c => ?_⟩, fun c => ?_, b4.le (by omega), by omega, ((l1.2.trans l2.2).trans l3.2).trans l4.2⟩
    · have ek : k + (m + 1) + 3 = k + m + 3 + 1 := by omega
      rw [ek, callF_in hf rfl]
      have tl := @trim_len h.length (fmD (.node fa x y fb)) h4 (by omega)
      simp only [F_l_drawn_form, B_l_drawn_form, startD, List.map_cons, List.map_nil, List.replicate, List.length_cons, List.length_nil, Nat.reduceAdd, Nat.reduceSub, List.cons_append, List.nil_append]
      simp -implicitDefEqProofs only [exs_cons, seqF, exs_nil, ex_asg, ex_par, ex_seti, ex_aug, ex_expr, ex_ret, ex_retn, ex_ite, ex_forr, ex_whil, ex_pass, ex_brk, ex_cont, ev_var, ev_cst, ev_glb, ev_bin, ev_cmp, ev_chain, ev_isn, ev_neg, ev_not, ev_bop, ev_ite, ev_tup, ev_lst, ev_new, ev_idx, ev_sl, ev_rev, ev_bi, ev_bi1, ev_mt, ev_call, ev_comp, ev_frz, evs_nil, evs_cons, evB_one, evB_cons, evO_none, evO_some, optF_int, evC_none, evC_some, evI_seq, evI_range1, evI_range2, evI_enum, evI_zip, rngF_int, rngF2_int, enuF_str, enuF_lst, permD, List.getElem?_cons_zero, List.getElem?_cons_succ, List.cons_append, List.nil_append, List.append_nil, List.set_cons_zero, List.set_cons_succ, Res.bind_ok, Res.calm_ok, tg_name, tg_tup1, tg_tup2, tg_tup3, tg_tup4, compF_ap, bodyF_ap, wipeD, List.length_cons, List.length_nil, List.zip_cons_cons, List.zip_nil_right, List.foldl_cons, List.foldl_nil, if_true, if_false, Bool.false_eq_true, Bool.true_eq_false, truth_bl, truth_str, truth_int, truth_lst, truth_tup, truth_non, Bool.not_true, Bool.not_false, beq_self_eq_true, Nat.zero_add, Nat.reduceAdd, Nat.reduceSub, SZ0, SZ1, SZ2, SZ3, SZ4, SZ5, SZ6, SZ7, SZ8, bin_add, bin_sub, cmp_lt, cmp_le, cmp_gt, cmp_ge, cmp_eqi, cmp_nei, cmp_eqs, cmp_nes, cmp_eqb, cmp_neb, cmp_inns, cmp_nins, bi_int, bi_intb, bi_abs, bi_lens, bi_lent, bi_lenl, seqD_str, seqD_tup, seqD_lst, rev_str, neg_int, endR, beq_tt, beq_ff, beq_tf, beq_ft, Bool.and_true, Bool.and_false, Bool.true_and, Bool.false_and, Bool.or_true, Bool.or_false, Bool.true_or, Bool.false_or, d, e1, e2, f1, e3, f2, e4]
      exact tl
    · exact (mem_less.mp ((ma x).mp z)).2 rfl
    · exact (mem_less.mp ((mb y).mp z)).2 rfl
    · rw [ma, mb, mem_less, mem_less]
      constructor
      · intro z
        have hc : c ∈ names := by
          rcases z with z | z
          · exact z.1
          · exact z ▸ x1
        by_cases w : c = y
        · exact .inr w
        · exact .inl ⟨hc, w⟩
      · intro z
        have hc : c ∈ names := by
          rcases z with z | z
          · exact z.1
          · exact z ▸ y1
        by_cases w : c = x
        · exact .inr w
        · exact .inl ⟨hc, w⟩
    · show memF c fa ∨ c = x ↔ _
      rw [ma, mem_less]
      constructor
      · rintro (z | z)
        · exact z.1
        · exact z ▸ x1
      · intro z
        by_cases w : c = x
        · exact .inr w
        · exact .inl ⟨z, w⟩
/-! ### sorted letters -/
theorem sing_of_perm {cs : List Nat} : ∀ {L : List (List Nat)}, (∀ s ∈ L, ∃ c ∈ cs, s = [c]) → ∃ ds : List Nat, L = ds.map fun c => [c]
  | [], _ => ⟨[], rfl⟩
  | s :: L, h => by
    obtain ⟨c, _, rfl⟩ := h s (.head _)
    obtain ⟨ds, rfl⟩ := sing_of_perm fun t ht => h t (.tail _ ht)
    exact ⟨c :: ds, rfl⟩
theorem sorted_chs (cs : List Nat) (hl : cs.length < 64) : ∃ ds : List Nat, ds.Perm cs ∧ ds.Pairwise (· ≤ ·) ∧ ∀ h, biD .sorted [.lst (cs.map chD)] h = .ok (.lst (ds.map chD)) h := by
  cases cs with
  | nil => exact ⟨[], .refl _, .nil, fun h => rfl⟩
  | cons c cs =>
    have e0 : ((c :: cs).map chD) = ((c :: cs).map fun x => [x]).map .str := by rw [List.map_map]; rfl
    obtain ⟨ds, ed⟩ := sing_of_perm (cs := c :: cs) (L := sortS ((c :: cs).map fun x => [x])) fun s hs => by
      obtain ⟨x, hx, rfl⟩ := List.mem_map.mp ((sortS_perm _).mem_iff.mp hs)
      exact ⟨x, hx, rfl⟩
    have hp := sortS_perm ((c :: cs).map fun x => [x])
    have hs := sortS_sorted ((c :: cs).map fun x => [x])
    rw [ed] at hp hs
    refine ⟨ds, ?_, ?_, fun h => ?_⟩
    · have := hp.map fun s : List Nat => s.headD 0
      simpa [List.map_map, Function.comp_def] using this
    · refine (List.pairwise_map.mp hs).imp fun {a b} z => ?_
      rw [List.cons_le_cons_iff] at z
      omega
    · have i0 : intsOf ((c :: cs).map chD) = none := rfl
      have s0 : strsOf ((c :: cs).map chD) = some ((c :: cs).map fun x => [x]) := by rw [e0, strsOf_strs]
      have : biD .sorted [.lst ((c :: cs).map chD)] h = (match intsOf ((c :: cs).map chD), strsOf ((c :: cs).map chD) with
        | some ns, _ => .ok (.lst ((sortI ns).map .int)) h
        | _, some ss => if ss.length < 64 then .ok (.lst ((sortS ss).map .str)) h else .bad
        | _, _ => .bad) := rfl
      rw [this, i0, s0]
      dsimp only
      rw [if_pos (by simpa using hl), ed, List.map_map]
      rfl
end
end Dn

set_option Elab.async false
set_option linter.all false
set_option maxRecDepth 100000
set_option maxHeartbeats 4000000
/-! live lists behind a heap -/
namespace Dn
open PySem L2
theorem get_tail {g r : Hc} {m i : Nat} (hm : m = g.length + i) : (g ++ r)[m]? = r[i]? := by
  subst hm
  rw [List.getElem?_append_right (by omega)]
  congr 1
  omega
theorem set_tail {g r : Hc} {m i : Nat} (hm : m = g.length + i) (c : Cell) : (g ++ r).set m c = g ++ r.set i c := by
  subst hm
  rw [List.set_append_right _ _ (by omega)]
  congr 2
  omega
theorem mtOk_app {g r : Hc} {m i : Nat} {xs : List Dv} (hm : m = g.length + i) (hr : r[i]? = some (.lst xs)) : mtOk .append (.loc m) (g ++ r) = true := by
  simp only [mtOk, lstOf, get_tail hm, hr, Option.isSome_some]
theorem mt_app {g r : Hc} {m i : Nat} {xs : List Dv} (hm : m = g.length + i) (hr : r[i]? = some (.lst xs)) (hz : xs.length + 1 ≤ SZ) (y : Dv) : mtD .append (.loc m) [y] (g ++ r) = .ok .non (g ++ r.set i (.lst (xs ++ [y]))) := by
  simp only [mtD, get_tail hm, hr]
  rw [if_pos (SZok_iff.mpr hz), set_tail hm]
theorem frz_app {g r : Hc} {m i : Nat} {xs : List Dv} (hm : m = g.length + i) (hr : r[i]? = some (.lst xs)) : frzD (.loc m) (g ++ r) = .ok (.lst xs) (g ++ r.set i (.fz xs)) := by
  simp only [frzD, get_tail hm, hr, set_tail hm]
theorem Flat.take {h : Hc} (f : Flat h) (n : Nat) : Flat (h.take n) := fun c hc => f c (List.mem_of_mem_take hc)
theorem trim_any {n : Nat} {g : Hc} {v : Dv} (f : Flat g) (hv : belowD 0 v = true) : ∃ h', trimR n v g = .ok v h' ∧ Flat h' := by
  unfold trimR
  split
  · exact ⟨g, rfl, f⟩
  · split
    · exact ⟨g.take n, rfl, f.take n⟩
    · exact ⟨g, rfl, f⟩
theorem below_forms : ∀ L : List Fm, belowDs 0 (L.map fmD) = true
  | [] => rfl
  | f :: L => by simp only [List.map_cons, belowDs, fmD_below, below_forms L]; rfl
theorem strs_flat {ps : List (List Nat)} : (ps.map List.length).sum = ps.flatten.length := by rw [List.length_flatten]
theorem strs_of' {P : List Nat → Prop} : ∀ {ys : List Dv}, (∀ y ∈ ys, ∃ p, P p ∧ y = .str p) → ∃ ps : List (List Nat), ys = ps.map .str ∧ ∀ p ∈ ps, P p
  | [], _ => ⟨[], rfl, fun _ h => by cases h⟩
  | y :: ys, h => by
    obtain ⟨p, hp, rfl⟩ := h y (.head _)
    obtain ⟨ps, rfl, h2⟩ := strs_of' fun z hz => h z (.tail _ hz)
    refine ⟨p :: ps, rfl, fun q hq => ?_⟩
    rcases List.mem_cons.mp hq with rfl | hq
    · exact hp
    · exact h2 q hq
theorem tuple_lst {h : Hc} (xs : List Dv) : biD .tuple [.lst xs] h = .ok (.tup xs) h := rfl
theorem list_lst {h : Hc} (xs : List Dv) : biD .list [.lst xs] h = .ok (.lst xs) h := rfl
/-! ### rows: calls with written things -/
def planB : Fm → List Nat
  | .nil => []
  | .node a x y b => match planB a with
    | [] => [x]
    | c :: r => (c :: r) ++ (x :: y :: planB b)
theorem planB_eq : ∀ f, planB f = planF f
  | .nil => rfl
  | .node a x y b => by
    rw [planB, planF, ← planB_eq a, ← planB_eq b]
    cases planB a with
    | nil => rfl
    | cons c r => simp
def ffB (f : Fm) : Bool := (planB f).all (fun c => memN c ABC) && beqF (formB 8 (planB f)) f
theorem Pl_by {p : List Nat} (h : p.all (fun c => memN c ABC) = true) : Pl p := fun c hc => (memN_iff c ABC).mp (List.all_eq_true.mp h c hc)
theorem ffB_ok {f : Fm} (h : ffB f = true) : FF f := by
  simp only [ffB, Bool.and_eq_true] at h
  have pl := Pl_by h.1
  have e := h.2
  rw [beqF_eq, ← formB_eq 8 _ (nl_Pl pl)] at e
  have e2 := of_decide_eq_true e
  rw [← e2]
  exact .of pl
section
variable {fs : List MFn} {gl : List Dv} {X : Ix}
theorem same_row (hf : fs[X.l_same]? = some (F_l_same X)) (n k : Nat) {d : Dv} (h : Hc) (e1 : Nat.ble (dp d) n = true) (e2 : wf d = true) : callF fs gl (k + n + 1) X.l_same [d, d] h = .ok (.bl true) h := same_ok hf n k d h (Nat.le_of_ble_eq_true e1) e2
theorem form_of_row (H : HasFormOf fs X) (k : Nat) {p : List Nat} {v : Dv} (h : Hc) (hc : h.all (belowC h.length) = true) (hp : p.all (fun c => memN c ABC) = true) (lp : Nat.ble (p.length + 1) SZ = true) (e : fmD (formB 8 p) = v) : callF fs gl (k + 13) X.form_of [.str p] h = .ok v h := by
  rw [← e, ← formB_eq 8 p (nl_by hp)]
  exact form_of_ok H k p h (nl_by hp) (Nat.le_of_ble_eq_true lp) hc
theorem l_form_row (H : HasLForm fs X) (k : Nat) {p : List Nat} {v : Dv} (h : Hc) (hp : p.all (fun c => memN c ABC) = true) (e : fmD (formB 8 p) = v) : callF fs gl (k + 10) X.l_form [.str p] h = .ok v h := by
  rw [← e, ← formB_eq 8 p (nl_by hp)]
  exact l_form_ok H 8 k p h (nl_by hp) (by omega)
theorem plan_of_row (ho : fs[X.plan_of]? = some (F_plan_of X)) (hb : fs[X.plan_by]? = some (F_plan_by X)) (t : Bool) (k : Nat) {f : Fm} {d : Dv} {p : List Nat} (h : Hc) (e1 : fmG t f = d) (hf : ffB f = true) (e : planB f = p) : callF fs gl (k + 10) X.plan_of [d] h = .ok (.str p) h := by
  rw [← e1, ← e, planB_eq]
  exact plan_of_ok ho hb t k f h (ffB_ok hf).dp
theorem l_plan_of_row (hf : fs[X.l_plan_of]? = some (F_l_plan_of X)) (k : Nat) {f : Fm} {d : Dv} {p : List Nat} (h : Hc) (e1 : fmD f = d) (hf2 : ffB f = true) (e : planB f = p) : callF fs gl (k + 9) X.l_plan_of [d] h = .ok (.str p) h := by
  rw [← e1, ← e, planB_eq]
  exact l_plan_of_ok hf 8 k f h (ffB_ok hf2).dp (by omega) (ffB_ok hf2).v
theorem product_row (H : HasProd fs X) (t u : Bool) (k : Nat) {f g : Fm} {d1 d2 v : Dv} (h : Hc) (hc : h.all (belowC h.length) = true) (e1 : fmG t f = d1) (e2 : fmG u g = d2) (hf : ffB f = true) (hg : ffB g = true) (e : fmD (formB 8 (planB f ++ planB g)) = v) : callF fs gl (k + 14) X.product [d1, d2] h = .ok v h := by
  have F := ffB_ok hf
  have G := ffB_ok hg
  rw [← e1, ← e2, ← e, planB_eq, planB_eq, ← formB_eq 8 _ (nl_Pl (F.pl.app G.pl))]
  exact product_ok H t u k h F G hc
end
end Dn

set_option Elab.async false
set_option linter.all false
set_option maxRecDepth 100000
set_option maxHeartbeats 4000000
/-! what a plan can begin with -/
namespace Dn
def leftF : Fm → List (Fm × Nat)
  | .nil => []
  | .node a x _ _ => (a, x) :: leftF a
theorem leftF_form {p : List Nat} (h : p ≠ []) : leftF (form p) = (form (ahead p), came p) :: leftF (form (ahead p)) := by rw [form_node h]; rfl
abbrev nN (p : List Nat) : Nat := (newsL p).length
theorem nl_news (p : List Nat) : nl p = nN p := by
  have a : nl p ≤ nN p := len_nodup (signs_nodup p) fun c hc => (newsL_mem p c).mpr ((signs_mem c p).mp hc)
  have b : nN p ≤ nl p := len_nodup (newsL_nodup p) fun c hc => (signs_mem c p).mpr ((newsL_mem p c).mp hc)
  omega
theorem leftF_len : ∀ (n : Nat) (p : List Nat), p.length ≤ n → (leftF (form p)).length = nN p
  | n, p, h => by
    by_cases hp : p = []
    · subst hp; rw [form_nil]; rfl
    · cases n with
      | zero => exact absurd (List.length_eq_zero_iff.mp (by omega)) hp
      | succ n =>
        have la := ahead_len hp
        have e : nN p = nN (ahead p) + 1 := by
          show (newsL p).length = _
          rw [newsL_ahead hp]; simp
        rw [leftF_form hp, List.length_cons, leftF_len n (ahead p) (by omega), e]
theorem left_len (p : List Nat) : (leftF (form p)).length = nN p := leftF_len _ p (Nat.le_refl _)
theorem left_app (u v : List Nat) : leftF (form u) <:+ leftF (form (u ++ v)) := by
  induction v using list_snoc with
  | h0 => rw [List.append_nil]; exact List.suffix_refl _
  | h1 v c ih =>
    rw [← List.append_assoc, leftF_form (p := u ++ v ++ [c]) (by simp), ahead_snoc, came_snoc]
    by_cases z : c ∈ u ++ v
    · rw [if_pos z, if_pos z, ← leftF_form (p := u ++ v) (by rintro w; rw [w] at z; cases z)]
      exact ih
    · rw [if_neg z, if_neg z]
      exact ih.trans (List.suffix_cons _ _)
theorem suffix_len {t : Type} {a b l : List t} (ha : a <:+ l) (hb : b <:+ l) (h : a.length = b.length) : a = b := by
  obtain ⟨x, rfl⟩ := ha
  obtain ⟨y, e⟩ := hb
  have hl : y.length = x.length := by
    have := congrArg List.length e
    simp at this
    omega
  exact ((List.append_inj e hl).2).symm
/-- the m-th new letter -/
theorem new_at : ∀ (p : List Nat) (m : Nat), 1 ≤ m → m ≤ nN p → ∃ p1 c v, p = p1 ++ c :: v ∧ c ∉ p1 ∧ nN p1 + 1 = m := by
  intro p
  induction p using list_snoc with
  | h0 => intro m h1 h2; simp [nN, newsL] at h2; omega
  | h1 q d ih =>
    intro m h1 h2
    by_cases z : m ≤ nN q
    · obtain ⟨p1, c, v, e, hc, hn⟩ := ih m h1 z
      exact ⟨p1, c, v ++ [d], by rw [e]; simp, hc, hn⟩
    · have : nN (q ++ [d]) = (nstep (newsL q) d).length := by show (newsL _).length = _; rw [newsL_snoc]
      rw [this] at h2
      unfold nstep at h2
      by_cases w : d ∈ newsL q
      · rw [if_pos w] at h2; exact absurd h2 z
      · rw [if_neg w] at h2
        simp only [List.length_append, List.length_cons, List.length_nil] at h2
        have eq : nN q = (newsL q).length := rfl
        exact ⟨q, d, [], rfl, fun k => w ((newsL_mem q d).mpr k), by omega⟩
theorem nN_snoc {q : List Nat} {c : Nat} (h : c ∉ q) : nN (q ++ [c]) = nN q + 1 := by
  show (newsL _).length = _
  rw [newsL_snoc, nstep, if_neg fun z => h ((newsL_mem q c).mp z)]
  simp
/-- s stands at the m-th new letter of p as it stands in s -/
theorem left_at {s p p1 v : List Nat} {c : Nat} (hs : s ≠ []) (e : p = p1 ++ c :: v) (hc : c ∉ p1) (hn : nN p1 + 1 = nN s) :
    leftF (form s) <:+ leftF (form p) ↔ form (ahead s) = form p1 ∧ came s = c := by
  have ew : p = (p1 ++ [c]) ++ v := by rw [e]; simp
  have hw : leftF (form (p1 ++ [c])) <:+ leftF (form p) := by rw [ew]; exact left_app _ _
  have lw : leftF (form (p1 ++ [c])) = (form p1, c) :: leftF (form p1) := by
    rw [leftF_form (by simp), ahead_snoc, came_snoc, if_neg hc, if_neg hc]
  have ll : (leftF (form s)).length = (leftF (form (p1 ++ [c]))).length := by rw [left_len, left_len, nN_snoc hc, hn]
  constructor
  · intro h
    have := suffix_len h hw ll
    rw [lw, leftF_form hs] at this
    injection this with h1 _
    injection h1 with h2 h3
    exact ⟨h2, h3⟩
  · rintro ⟨h1, h2⟩
    have : leftF (form s) = leftF (form (p1 ++ [c])) := by rw [lw, leftF_form hs, h1, h2]
    rw [this]; exact hw
theorem mem_from_ahead {s : List Nat} (hs : s ≠ []) (d : Nat) : d ∈ s ↔ d ∈ ahead s ∨ d = came s := by
  constructor
  · intro h
    rcases mem_ahead s d h with z | z
    · exact .inr z
    · exact .inl z
  · rintro (z | z)
    · exact ahead_sub s d z
    · exact z ▸ came_mem hs
theorem begins_iff (s p : List Nat) : form (s ++ p) = form p ↔ leftF (form s) <:+ leftF (form p) := by
  constructor
  · intro h
    rw [← h]; exact left_app s p
  · intro h
    by_cases hs : s = []
    · subst hs; rfl
    · have hl := h.length_le
      rw [left_len, left_len] at hl
      have h1 : 1 ≤ nN s := by
        have : (newsL s) ≠ [] := fun z => by
          have := (newsL_mem s (came s)).mpr (came_mem hs)
          rw [z] at this; cases this
        exact List.length_pos_iff.mpr this
      obtain ⟨p1, c, v, e, hc, hn⟩ := new_at p (nN s) h1 hl
      obtain ⟨h2, h3⟩ := (left_at hs e hc hn).mp h
      have hm := form_mem h2
      have lets : ∀ d, d ∈ s ↔ d ∈ p1 ++ [c] := fun d => by rw [mem_from_ahead hs, hm d, List.mem_append, List.mem_singleton, h3]
      have hw : form (s ++ (p1 ++ [c])) = form (p1 ++ [c]) := by
        have A := ahead_app s (p1 ++ [c]) (fun d hd => (lets d).mpr hd) hs
        have B := behind_app s (p1 ++ [c]) (fun d hd => (lets d).mp hd) (by simp)
        rw [form_node (p := s ++ (p1 ++ [c])) (by simp), form_node (p := p1 ++ [c]) (by simp), A.1, A.2, B.1, B.2, ahead_snoc, came_snoc, if_neg hc, if_neg hc, h2, h3]
      have := form_app_r hw v
      rw [List.append_assoc] at this
      have ew : p = (p1 ++ [c]) ++ v := by rw [e]; simp
      rw [ew]; exact this
theorem form_rev_inj {p q : List Nat} (h : form p.reverse = form q.reverse) : form p = form q := by
  have := congrArg revF h
  rwa [form_reverse, form_reverse, revF_revF, revF_revF] at this
theorem stops_rev (p t : List Nat) : form (t.reverse ++ p.reverse) = form p.reverse ↔ form (p ++ t) = form p := by
  rw [← List.reverse_append]
  exact ⟨form_rev_inj, fun h => by rw [form_reverse, form_reverse, h]⟩
theorem holds_iff (s p t : List Nat) : form (s ++ p ++ t) = form p ↔ form (s ++ p) = form p ∧ form (p ++ t) = form p := by
  constructor
  · intro h
    have h1 : form (s ++ p) = form p := by
      rw [begins_iff, ← h, List.append_assoc]
      exact left_app s _
    refine ⟨h1, ?_⟩
    have := form_app_r h1 t
    rw [h] at this
    exact this.symm
  · rintro ⟨h1, h2⟩
    rw [form_app_r h1 t, h2]
/-! ### places of new letters -/
def npC (p : List Nat) (x : Nat × Nat) : Bool := !decide (x.1 ∈ p.take x.2)
def npsL (p : List Nat) : List Nat := ((p.zipIdx).filter (npC p)).map (·.2)
theorem nps_pre (p : List Nat) : ∀ q r : List Nat, p = q ++ r → ((q.zipIdx).filter (npC p)).map (·.2) = npsL q := by
  intro q r e
  unfold npsL
  congr 1
  refine List.filter_congr fun x hx => ?_
  obtain ⟨c, i⟩ := x
  have hi := List.mem_zipIdx hx
  unfold npC
  have : p.take i = q.take i := by rw [e, List.take_append_of_le_length (by omega)]
  rw [this]
theorem npsL_snoc (q : List Nat) (c : Nat) : npsL (q ++ [c]) = npsL q ++ if c ∈ q then [] else [q.length] := by
  have h := nps_pre (q ++ [c]) q [c] rfl
  unfold npsL at h ⊢
  rw [List.zipIdx_append, List.filter_append, List.map_append, h]
  congr 1
  have hz : [c].zipIdx (0 + q.length) = [(c, q.length)] := by simp
  rw [hz]
  by_cases z : c ∈ q
  · rw [if_pos z, List.filter_cons_of_neg (by simp [npC, z])]; rfl
  · rw [if_neg z, List.filter_cons_of_pos (by simp [npC, z])]; rfl
theorem npsL_len (p : List Nat) : (npsL p).length = nN p := by
  induction p using list_snoc with
  | h0 => rfl
  | h1 q c ih =>
    have e : nN (q ++ [c]) = (nstep (newsL q) c).length := by show (newsL _).length = _; rw [newsL_snoc]
    rw [npsL_snoc, List.length_append, ih, e, nstep]
    by_cases z : c ∈ q
    · rw [if_pos z, if_pos ((newsL_mem q c).mpr z)]; rfl
    · rw [if_neg z, if_neg fun w => z ((newsL_mem q c).mp w)]; simp
theorem npsL_app (u v : List Nat) : npsL u <+: npsL (u ++ v) := by
  induction v using list_snoc with
  | h0 => rw [List.append_nil]; exact List.prefix_refl _
  | h1 v c ih =>
    rw [← List.append_assoc, npsL_snoc]
    exact ih.trans (List.prefix_append _ _)
theorem npsL_at {p p1 v : List Nat} {c : Nat} (e : p = p1 ++ c :: v) (hc : c ∉ p1) : (npsL p)[nN p1]? = some p1.length := by
  have ew : p = (p1 ++ [c]) ++ v := by rw [e]; simp
  obtain ⟨t, ht⟩ := npsL_app (p1 ++ [c]) v
  rw [ew, ← ht, npsL_snoc, if_neg hc, ← npsL_len p1, List.append_assoc, List.getElem?_append_right (Nat.le_refl _)]
  simp
theorem npsL_last {p : List Nat} (h : p ≠ []) : (npsL p).getLast? = some (ahead p).length := by
  obtain ⟨v, e⟩ := split_ahead h
  have hl : nN p = nN (ahead p) + 1 := by
    show (newsL p).length = _
    rw [newsL_ahead h]; simp
  rw [List.getLast?_eq_getElem?, npsL_len, hl, Nat.add_sub_cancel]
  exact npsL_at e (came_not h)
theorem npsL_lt {p : List Nat} {i : Nat} (h : i ∈ npsL p) : i < p.length := by
  unfold npsL at h
  obtain ⟨⟨c, j⟩, hx, rfl⟩ := List.mem_map.mp h
  have := List.mem_zipIdx (List.mem_filter.mp hx).1
  show j < p.length
  omega
end Dn

set_option Elab.async false
set_option linter.all false
set_option maxRecDepth 100000
set_option maxHeartbeats 4000000
/-! begins, stops, holds -/
namespace Dn
open PySem L2
section
variable {fs : List MFn} {gl : List Dv} {X : Ix}
theorem begins_ok (H : HasFormOf fs X) (hf : fs[X.begins]? = some (F_begins X)) (k : Nat) (p s : List Nat) (h : Hc) (pp : Pl p) (ps : Pl s) (l : p.length + s.length < 2 ^ 20) (hc : h.all (belowC h.length) = true) :
    callF fs gl (k + 14) X.begins [.str p, .str s] h = .ok (.bl (decide (form (s ++ p) = form p))) h := by
  rw [callF_in hf rfl]
  have a1 := adds_ok (h := h) s p (by unfold SZ; omega)
  have e1 := form_of_ok (gl := gl) H k (s ++ p) h (nl_Pl (ps.app pp)) (by simp; unfold SZ; omega) hc
  have e2 := form_of_ok (gl := gl) H k p h (nl_Pl pp) (by unfold SZ; omega) hc
  have e3 := cmp_fmD (h := h) (dpF_form (nl_Pl (ps.app pp))) (dpF_form (nl_Pl pp))
  have tl := @trim_len h.length (.bl (decide (form (s ++ p) = form p))) h rfl
  simp only [F_begins, B_begins, startD, List.map_cons, List.map_nil, List.replicate, List.length_cons, List.length_nil, Nat.reduceAdd, Nat.reduceSub, List.cons_append, List.nil_append]
  simp -implicitDefEqProofs only [exs_cons, seqF, exs_nil, ex_asg, ex_par, ex_seti, ex_aug, ex_expr, ex_ret, ex_retn, ex_ite, ex_forr, ex_whil, ex_pass, ex_brk, ex_cont, ev_var, ev_cst, ev_glb, ev_bin, ev_cmp, ev_chain, ev_isn, ev_neg, ev_not, ev_bop, ev_ite, ev_tup, ev_lst, ev_new, ev_idx, ev_sl, ev_rev, ev_bi, ev_bi1, ev_mt, ev_call, ev_comp, ev_frz, evs_nil, evs_cons, evB_one, evB_cons, evO_none, evO_some, optF_int, evC_none, evC_some, evI_seq, evI_range1, evI_range2, evI_enum, evI_zip, rngF_int, rngF2_int, enuF_str, enuF_lst, permD, List.getElem?_cons_zero, List.getElem?_cons_succ, List.cons_append, List.nil_append, List.append_nil, List.set_cons_zero, List.set_cons_succ, Res.bind_ok, Res.calm_ok, tg_name, tg_tup1, tg_tup2, tg_tup3, tg_tup4, compF_ap, bodyF_ap, wipeD, List.length_cons, List.length_nil, List.zip_cons_cons, List.zip_nil_right, List.foldl_cons, List.foldl_nil, if_true, if_false, Bool.false_eq_true, Bool.true_eq_false, truth_bl, truth_str, truth_int, truth_lst, truth_tup, truth_non, Bool.not_true, Bool.not_false, beq_self_eq_true, Nat.zero_add, Nat.reduceAdd, Nat.reduceSub, SZ0, SZ1, SZ2, SZ3, SZ4, SZ5, SZ6, SZ7, SZ8, bin_add, bin_sub, cmp_lt, cmp_le, cmp_gt, cmp_ge, cmp_eqi, cmp_nei, cmp_eqs, cmp_nes, cmp_eqb, cmp_neb, cmp_inns, cmp_nins, bi_int, bi_intb, bi_abs, bi_lens, bi_lent, bi_lenl, seqD_str, seqD_tup, seqD_lst, rev_str, neg_int, endR, beq_tt, beq_ff, beq_tf, beq_ft, Bool.and_true, Bool.and_false, Bool.true_and, Bool.false_and, Bool.or_true, Bool.or_false, Bool.true_or, Bool.false_or, a1, e1, e2, e3, tl]
theorem stops_ok (H : HasFormOf fs X) (hf : fs[X.stops]? = some (F_stops X)) (k : Nat) (p s : List Nat) (h : Hc) (pp : Pl p) (ps : Pl s) (l : p.length + s.length < 2 ^ 20) (hc : h.all (belowC h.length) = true) :
    callF fs gl (k + 14) X.stops [.str p, .str s] h = .ok (.bl (decide (form (p ++ s) = form p))) h := by
  rw [callF_in hf rfl]
  have a1 := adds_ok (h := h) p s (by unfold SZ; omega)
  have e1 := form_of_ok (gl := gl) H k (p ++ s) h (nl_Pl (pp.app ps)) (by simp; unfold SZ; omega) hc
  have e2 := form_of_ok (gl := gl) H k p h (nl_Pl pp) (by unfold SZ; omega) hc
  have e3 := cmp_fmD (h := h) (dpF_form (nl_Pl (pp.app ps))) (dpF_form (nl_Pl pp))
  have tl := @trim_len h.length (.bl (decide (form (p ++ s) = form p))) h rfl
  simp only [F_stops, B_stops, startD, List.map_cons, List.map_nil, List.replicate, List.length_cons, List.length_nil, Nat.reduceAdd, Nat.reduceSub, List.cons_append, List.nil_append]
  simp -implicitDefEqProofs only [exs_cons, seqF, exs_nil, ex_asg, ex_par, ex_seti, ex_aug, ex_expr, ex_ret, ex_retn, ex_ite, ex_forr, ex_whil, ex_pass, ex_brk, ex_cont, ev_var, ev_cst, ev_glb, ev_bin, ev_cmp, ev_chain, ev_isn, ev_neg, ev_not, ev_bop, ev_ite, ev_tup, ev_lst, ev_new, ev_idx, ev_sl, ev_rev, ev_bi, ev_bi1, ev_mt, ev_call, ev_comp, ev_frz, evs_nil, evs_cons, evB_one, evB_cons, evO_none, evO_some, optF_int, evC_none, evC_some, evI_seq, evI_range1, evI_range2, evI_enum, evI_zip, rngF_int, rngF2_int, enuF_str, enuF_lst, permD, List.getElem?_cons_zero, List.getElem?_cons_succ, List.cons_append, List.nil_append, List.append_nil, List.set_cons_zero, List.set_cons_succ, Res.bind_ok, Res.calm_ok, tg_name, tg_tup1, tg_tup2, tg_tup3, tg_tup4, compF_ap, bodyF_ap, wipeD, List.length_cons, List.length_nil, List.zip_cons_cons, List.zip_nil_right, List.foldl_cons, List.foldl_nil, if_true, if_false, Bool.false_eq_true, Bool.true_eq_false, truth_bl, truth_str, truth_int, truth_lst, truth_tup, truth_non, Bool.not_true, Bool.not_false, beq_self_eq_true, Nat.zero_add, Nat.reduceAdd, Nat.reduceSub, SZ0, SZ1, SZ2, SZ3, SZ4, SZ5, SZ6, SZ7, SZ8, bin_add, bin_sub, cmp_lt, cmp_le, cmp_gt, cmp_ge, cmp_eqi, cmp_nei, cmp_eqs, cmp_nes, cmp_eqb, cmp_neb, cmp_inns, cmp_nins, bi_int, bi_intb, bi_abs, bi_lens, bi_lent, bi_lenl, seqD_str, seqD_tup, seqD_lst, rev_str, neg_int, endR, beq_tt, beq_ff, beq_tf, beq_ft, Bool.and_true, Bool.and_false, Bool.true_and, Bool.false_and, Bool.or_true, Bool.or_false, Bool.true_or, Bool.false_or, a1, e1, e2, e3, tl]
theorem holds_ok (H : HasFormOf fs X) (hf : fs[X.holds]? = some (F_holds X)) (k : Nat) (p s t : List Nat) (h : Hc) (pp : Pl p) (ps : Pl s) (pt : Pl t) (l : p.length + s.length + t.length < 2 ^ 20) (hc : h.all (belowC h.length) = true) :
    callF fs gl (k + 14) X.holds [.str p, .str s, .str t] h = .ok (.bl (decide (form (s ++ p ++ t) = form p))) h := by
  rw [callF_in hf rfl]
  have a1 := adds_ok (h := h) s p (by unfold SZ; omega)
  have a2 := adds_ok (h := h) (s ++ p) t (by simp; unfold SZ; omega)
  have e1 := form_of_ok (gl := gl) H k (s ++ p ++ t) h (nl_Pl ((ps.app pp).app pt)) (by simp; unfold SZ; omega) hc
  have e2 := form_of_ok (gl := gl) H k p h (nl_Pl pp) (by unfold SZ; omega) hc
  have e3 := cmp_fmD (h := h) (dpF_form (nl_Pl ((ps.app pp).app pt))) (dpF_form (nl_Pl pp))
  have tl := @trim_len h.length (.bl (decide (form (s ++ p ++ t) = form p))) h rfl
  simp only [F_holds, B_holds, startD, List.map_cons, List.map_nil, List.replicate, List.length_cons, List.length_nil, Nat.reduceAdd, Nat.reduceSub, List.cons_append, List.nil_append]
  simp -implicitDefEqProofs only [exs_cons, seqF, exs_nil, ex_asg, ex_par, ex_seti, ex_aug, ex_expr, ex_ret, ex_retn, ex_ite, ex_forr, ex_whil, ex_pass, ex_brk, ex_cont, ev_var, ev_cst, ev_glb, ev_bin, ev_cmp, ev_chain, ev_isn, ev_neg, ev_not, ev_bop, ev_ite, ev_tup, ev_lst, ev_new, ev_idx, ev_sl, ev_rev, ev_bi, ev_bi1, ev_mt, ev_call, ev_comp, ev_frz, evs_nil, evs_cons, evB_one, evB_cons, evO_none, evO_some, optF_int, evC_none, evC_some, evI_seq, evI_range1, evI_range2, evI_enum, evI_zip, rngF_int, rngF2_int, enuF_str, enuF_lst, permD, List.getElem?_cons_zero, List.getElem?_cons_succ, List.cons_append, List.nil_append, List.append_nil, List.set_cons_zero, List.set_cons_succ, Res.bind_ok, Res.calm_ok, tg_name, tg_tup1, tg_tup2, tg_tup3, tg_tup4, compF_ap, bodyF_ap, wipeD, List.length_cons, List.length_nil, List.zip_cons_cons, List.zip_nil_right, List.foldl_cons, List.foldl_nil, if_true, if_false, Bool.false_eq_true, Bool.true_eq_false, truth_bl, truth_str, truth_int, truth_lst, truth_tup, truth_non, Bool.not_true, Bool.not_false, beq_self_eq_true, Nat.zero_add, Nat.reduceAdd, Nat.reduceSub, SZ0, SZ1, SZ2, SZ3, SZ4, SZ5, SZ6, SZ7, SZ8, bin_add, bin_sub, cmp_lt, cmp_le, cmp_gt, cmp_ge, cmp_eqi, cmp_nei, cmp_eqs, cmp_nes, cmp_eqb, cmp_neb, cmp_inns, cmp_nins, bi_int, bi_intb, bi_abs, bi_lens, bi_lent, bi_lenl, seqD_str, seqD_tup, seqD_lst, rev_str, neg_int, endR, beq_tt, beq_ff, beq_tf, beq_ft, Bool.and_true, Bool.and_false, Bool.true_and, Bool.false_and, Bool.or_true, Bool.or_false, Bool.true_or, Bool.false_or, a1, a2, e1, e2, e3, tl]
theorem lt_by {n m : Nat} (h : Nat.ble (n + 1) m = true) : n < m := Nat.le_of_ble_eq_true h
theorem begins_row (H : HasFormOf fs X) (hf : fs[X.begins]? = some (F_begins X)) (k : Nat) {p s : List Nat} {b : Bool} (h : Hc) (hc : h.all (belowC h.length) = true) (hp : p.all (fun c => memN c ABC) = true) (hs : s.all (fun c => memN c ABC) = true) (l : Nat.ble (p.length + s.length + 1) (2 ^ 20) = true) (e : beqF (formB 8 (s ++ p)) (formB 8 p) = b) :
    callF fs gl (k + 14) X.begins [.str p, .str s] h = .ok (.bl b) h := by
  rw [← alike_by (nl_Pl ((Pl_by hs).app (Pl_by hp))) (nl_by hp) e]
  exact begins_ok H hf k p s h (Pl_by hp) (Pl_by hs) (lt_by l) hc
theorem stops_row (H : HasFormOf fs X) (hf : fs[X.stops]? = some (F_stops X)) (k : Nat) {p s : List Nat} {b : Bool} (h : Hc) (hc : h.all (belowC h.length) = true) (hp : p.all (fun c => memN c ABC) = true) (hs : s.all (fun c => memN c ABC) = true) (l : Nat.ble (p.length + s.length + 1) (2 ^ 20) = true) (e : beqF (formB 8 (p ++ s)) (formB 8 p) = b) :
    callF fs gl (k + 14) X.stops [.str p, .str s] h = .ok (.bl b) h := by
  rw [← alike_by (nl_Pl ((Pl_by hp).app (Pl_by hs))) (nl_by hp) e]
  exact stops_ok H hf k p s h (Pl_by hp) (Pl_by hs) (lt_by l) hc
theorem holds_row (H : HasFormOf fs X) (hf : fs[X.holds]? = some (F_holds X)) (k : Nat) {p s t : List Nat} {b : Bool} (h : Hc) (hc : h.all (belowC h.length) = true) (hp : p.all (fun c => memN c ABC) = true) (hs : s.all (fun c => memN c ABC) = true) (ht : t.all (fun c => memN c ABC) = true) (l : Nat.ble (p.length + s.length + t.length + 1) (2 ^ 20) = true) (e : beqF (formB 8 (s ++ p ++ t)) (formB 8 p) = b) :
    callF fs gl (k + 14) X.holds [.str p, .str s, .str t] h = .ok (.bl b) h := by
  rw [← alike_by (nl_Pl (((Pl_by hs).app (Pl_by hp)).app (Pl_by ht))) (nl_by hp) e]
  exact holds_ok H hf k p s t h (Pl_by hp) (Pl_by hs) (Pl_by ht) (lt_by l) hc
end
theorem idx_lastL {h : Hc} {t : Type} (f : t → Dv) {xs : List t} {x : t} (e : xs.getLast? = some x) : idxD (.lst (xs.map f)) (.int (-1)) h = .ok (f x) h := by
  have hp : xs ≠ [] := by rintro rfl; cases e
  have hl := List.length_pos_iff.mpr hp
  have : atI (xs.map f) (-1) = some (f x) := by
    unfold atI ixN
    rw [if_neg (by omega), if_pos (by simp; omega)]
    have ej : ((-1 : Int) + ((xs.map f).length : Int)).toNat = xs.length - 1 := by simp; omega
    rw [ej, Option.bind_some, List.getElem?_map, ← List.getLast?_eq_getElem?, e]
    rfl
  exact idx_lst this
theorem idxS_nat {h : Hc} {xs : List Nat} {i c : Nat} (e : xs[i]? = some c) : idxD (.str xs) (.int (i : Int)) h = .ok (chD c) h := by
  simp only [idxD, dctOf, idxS, atD, atI_nat e]
theorem depDs_ints {t : Type} (f : t → Int) : ∀ L : List t, depDs (L.map fun x => .int (f x)) = some 0
  | [] => rfl
  | s :: L => by simp only [List.map_cons, depDs, depDs_ints f L, depD]; rfl
theorem depDs_bls {t : Type} (f : t → Bool) : ∀ L : List t, depDs (L.map fun x => .bl (f x)) = some 0
  | [] => rfl
  | s :: L => by simp only [List.map_cons, depDs, depDs_bls f L, depD]; rfl
end Dn

set_option Elab.async false
set_option linter.all false
set_option maxRecDepth 100000
/-! forms numbered, in plain words -/
namespace Dn
def cnt : Nat → Nat
  | 0 => 1
  | n + 1 => (n + 1) * cnt n * (n + 1) * cnt n
theorem cnt_pos : ∀ n, 0 < cnt n
  | 0 => by decide
  | n + 1 => by
    rw [cnt]
    exact Nat.mul_pos (Nat.mul_pos (Nat.mul_pos (Nat.succ_pos _) (cnt_pos n)) (Nat.succ_pos _)) (cnt_pos n)
def lessL (N : List Nat) (c : Nat) : List Nat := N.filter fun x => !(x == c)
theorem mem_lessL {N : List Nat} {c d : Nat} : d ∈ lessL N c ↔ d ∈ N ∧ d ≠ c := by simp [lessL]
theorem lessL_nodup {N : List Nat} (h : N.Nodup) (c : Nat) : (lessL N c).Nodup := h.filter _
theorem lessL_at : ∀ {N : List Nat} {i c : Nat}, N.Nodup → N[i]? = some c → N.take i ++ N.drop (i + 1) = lessL N c
  | [], i, c, _, h => by simp at h
  | x :: N, 0, c, hn, h => by
    simp at h; subst h
    have hx := (List.nodup_cons.mp hn).1
    have : N.filter (fun y => !(y == x)) = N := List.filter_eq_self.mpr fun y hy => by
      have : y ≠ x := fun e => hx (e ▸ hy)
      simp [this]
    simp [lessL, this]
  | x :: N, i + 1, c, hn, h => by
    have h' : N[i]? = some c := by simpa using h
    have ih := lessL_at (List.nodup_cons.mp hn).2 h'
    have hx := (List.nodup_cons.mp hn).1
    have : x ≠ c := fun e => hx (e ▸ List.mem_of_getElem? h')
    rw [List.take_succ_cons, List.drop_succ_cons, List.cons_append, ih]
    simp [lessL, this]
theorem lessL_len {N : List Nat} {c : Nat} (hn : N.Nodup) (hc : c ∈ N) : (lessL N c).length + 1 = N.length := by
  obtain ⟨i, hi⟩ := List.mem_iff_getElem?.mp hc
  have := (List.getElem?_eq_some_iff.mp hi).1
  rw [← lessL_at hn hi]; simp; omega
theorem lessL_sorted {N : List Nat} (h : N.Pairwise (· < ·)) (c : Nat) : (lessL N c).Pairwise (· < ·) := h.filter _
/-- the forms with just these letters -/
structure OF (N : List Nat) (f : Fm) : Prop where
  v : Vf f
  m : ∀ c, memF c f ↔ c ∈ N
theorem OF.nil : OF [] .nil := ⟨trivial, fun c => by simp [memF]⟩
theorem OF.of_nil {f : Fm} (h : OF [] f) : f = .nil := by
  cases f with
  | nil => rfl
  | node a x y b => exact absurd ((h.m x).mp (Or.inr rfl)) (by simp)
theorem OF.ne {N : List Nat} (h : OF N .nil) : N = [] := by
  cases N with
  | nil => rfl
  | cons x N => exact False.elim ((h.m x).mpr (.head _))
theorem OF.parts {N : List Nat} {a b : Fm} {x y : Nat} (h : OF N (.node a x y b)) : x ∈ N ∧ y ∈ N ∧ OF (lessL N x) a ∧ OF (lessL N y) b := by
  obtain ⟨⟨va, vb, hx, hy, e⟩, m⟩ := h
  have hN : ∀ c, c ∈ N ↔ (memF c a ∨ c = x) := fun c => (m c).symm
  refine ⟨(hN x).mpr (.inr rfl), (hN y).mpr ((e y).mpr (.inr rfl)), ⟨va, fun c => ?_⟩, ⟨vb, fun c => ?_⟩⟩
  · rw [mem_lessL, hN]
    constructor
    · intro h; exact ⟨.inl h, fun e => hx (e ▸ h)⟩
    · rintro ⟨h | h, n⟩
      · exact h
      · exact absurd h n
  · rw [mem_lessL, hN, e]
    constructor
    · intro h; exact ⟨.inl h, fun e => hy (e ▸ h)⟩
    · rintro ⟨h | h, n⟩
      · exact h
      · exact absurd h n
theorem OF.node {N : List Nat} {a b : Fm} {x y : Nat} (hx : x ∈ N) (hy : y ∈ N) (ha : OF (lessL N x) a) (hb : OF (lessL N y) b) : OF N (.node a x y b) := by
  have e1 : ∀ c, (memF c a ∨ c = x) ↔ c ∈ N := fun c => by
    rw [ha.m, mem_lessL]
    by_cases e : c = x
    · subst e; simp [hx]
    · simp [e]
  have e2 : ∀ c, (memF c b ∨ c = y) ↔ c ∈ N := fun c => by
    rw [hb.m, mem_lessL]
    by_cases e : c = y
    · subst e; simp [hy]
    · simp [e]
  refine ⟨⟨ha.v, hb.v, fun h => ?_, fun h => ?_, fun c => (e1 c).trans (e2 c).symm⟩, e1⟩
  · exact (mem_lessL.mp ((ha.m x).mp h)).2 rfl
  · exact (mem_lessL.mp ((hb.m y).mp h)).2 rfl
def rankF : Fm → List Nat → Nat
  | .nil, _ => 0
  | .node a x y b, N => ((N.idxOf x * cnt (N.length - 1) + rankF a (lessL N x)) * N.length + N.idxOf y) * cnt (N.length - 1) + rankF b (lessL N y)
def nthF : Nat → List Nat → Nat → Fm
  | 0, _, _ => .nil
  | m + 1, N, k => .node (nthF m (lessL N (N.getD (k / cnt m / (m + 1) / cnt m) 0)) (k / cnt m / (m + 1) % cnt m)) (N.getD (k / cnt m / (m + 1) / cnt m) 0) (N.getD (k / cnt m % (m + 1)) 0) (nthF m (lessL N (N.getD (k / cnt m % (m + 1)) 0)) (k % cnt m))
theorem digits {i r1 j r2 few n : Nat} (h1 : r1 < few) (h2 : r2 < few) (hj : j < n) :
    (((i * few + r1) * n + j) * few + r2) % few = r2 ∧ (((i * few + r1) * n + j) * few + r2) / few % n = j ∧ (((i * few + r1) * n + j) * few + r2) / few / n / few = i ∧ (((i * few + r1) * n + j) * few + r2) / few / n % few = r1 := by
  have hf : 0 < few := by omega
  have hn : 0 < n := by omega
  have e1 : (((i * few + r1) * n + j) * few + r2) / few = (i * few + r1) * n + j := by
    rw [Nat.mul_comm, Nat.mul_add_div hf, Nat.div_eq_of_lt h2]; rfl
  have e2 : ((i * few + r1) * n + j) / n = i * few + r1 := by
    rw [Nat.mul_comm, Nat.mul_add_div hn, Nat.div_eq_of_lt hj]; rfl
  refine ⟨?_, ?_, ?_, ?_⟩
  · rw [Nat.mul_comm, Nat.mul_add_mod, Nat.mod_eq_of_lt h2]
  · rw [e1, Nat.mul_comm, Nat.mul_add_mod, Nat.mod_eq_of_lt hj]
  · rw [e1, e2, Nat.mul_comm, Nat.mul_add_div hf, Nat.div_eq_of_lt h1]; rfl
  · rw [e1, e2, Nat.mul_comm, Nat.mul_add_mod, Nat.mod_eq_of_lt h1]
theorem dig_lt {i r1 j r2 few n : Nat} (hi : i < n) (h1 : r1 < few) (hj : j < n) (h2 : r2 < few) : ((i * few + r1) * n + j) * few + r2 < n * few * n * few := by
  have a1 : i * few + r1 + 1 ≤ n * few := by
    have : (i + 1) * few ≤ n * few := Nat.mul_le_mul_right _ hi
    rw [Nat.add_mul] at this; omega
  have a2 : (i * few + r1) * n + j + 1 ≤ n * few * n := by
    have : (i * few + r1 + 1) * n ≤ n * few * n := Nat.mul_le_mul_right _ a1
    rw [Nat.add_mul] at this; omega
  have : ((i * few + r1) * n + j + 1) * few ≤ n * few * n * few := Nat.mul_le_mul_right _ a2
  rw [Nat.add_mul] at this; omega
theorem getD_idx {N : List Nat} {x : Nat} (h : x ∈ N) : N.getD (N.idxOf x) 0 = x := by
  have := List.idxOf_lt_length_of_mem h
  rw [List.getD_eq_getElem?_getD, List.getElem?_eq_getElem this]
  exact List.getElem_idxOf this
theorem rank_lt : ∀ (m : Nat) (N : List Nat) (f : Fm), N.length = m → N.Nodup → OF N f → rankF f N < cnt m ∧ nthF m N (rankF f N) = f
  | 0, N, f, hm, _, h => by
    have : N = [] := List.length_eq_zero_iff.mp hm
    subst this
    rw [h.of_nil]
    exact ⟨by decide, rfl⟩
  | m + 1, N, f, hm, hn, h => by
    cases f with
    | nil => rw [h.ne] at hm; simp at hm
    | node a x y b =>
      obtain ⟨hx, hy, ha, hb⟩ := h.parts
      have lx := lessL_len hn hx
      have ly := lessL_len hn hy
      obtain ⟨a1, a2⟩ := rank_lt m _ a (by omega) (lessL_nodup hn x) ha
      obtain ⟨b1, b2⟩ := rank_lt m _ b (by omega) (lessL_nodup hn y) hb
      have ix : N.idxOf x < m + 1 := hm ▸ List.idxOf_lt_length_of_mem hx
      have iy : N.idxOf y < m + 1 := hm ▸ List.idxOf_lt_length_of_mem hy
      have em : N.length - 1 = m := by omega
      obtain ⟨d1, d2, d3, d4⟩ := digits (i := N.idxOf x) a1 b1 iy
      refine ⟨?_, ?_⟩
      · rw [rankF, em, hm, cnt]
        exact dig_lt ix a1 iy b1
      · rw [rankF, em, hm, nthF, d1, d2, d3, d4, getD_idx hx, getD_idx hy, a2, b2]
theorem getD_mem {N : List Nat} {i : Nat} (h : i < N.length) : N.getD i 0 ∈ N ∧ N[i]? = some (N.getD i 0) := by
  rw [List.getD_eq_getElem?_getD, List.getElem?_eq_getElem h]
  exact ⟨List.getElem_mem h, rfl⟩
theorem idx_getD {N : List Nat} {i : Nat} (hn : N.Nodup) (h : i < N.length) : N.idxOf (N.getD i 0) = i := by
  rw [List.getD_eq_getElem?_getD, List.getElem?_eq_getElem h]
  exact hn.idxOf_getElem i h
theorem div_bound {k m : Nat} (h : k < cnt (m + 1)) : k / cnt m / (m + 1) / cnt m < m + 1 := by
  rw [Nat.div_div_eq_div_mul, Nat.div_div_eq_div_mul]
  rw [cnt] at h
  refine Nat.div_lt_of_lt_mul ?_
  have : cnt m * ((m + 1) * cnt m) * (m + 1) = (m + 1) * cnt m * (m + 1) * cnt m := by ac_rfl
  rw [this]; exact h
theorem nth_ok : ∀ (m : Nat) (N : List Nat) (k : Nat), N.length = m → N.Nodup → k < cnt m → OF N (nthF m N k) ∧ rankF (nthF m N k) N = k
  | 0, N, k, hm, _, hk => by
    have : N = [] := List.length_eq_zero_iff.mp hm
    subst this
    have : k = 0 := by rw [cnt] at hk; omega
    subst this
    exact ⟨OF.nil, rfl⟩
  | m + 1, N, k, hm, hn, hk => by
    have c1 := div_bound hk
    have c2 : k / cnt m % (m + 1) < m + 1 := Nat.mod_lt _ (Nat.succ_pos _)
    have hx := getD_mem (N := N) (i := k / cnt m / (m + 1) / cnt m) (by omega)
    have hy := getD_mem (N := N) (i := k / cnt m % (m + 1)) (by omega)
    have jx := idx_getD (N := N) (i := k / cnt m / (m + 1) / cnt m) hn (by omega)
    have jy := idx_getD (N := N) (i := k / cnt m % (m + 1)) hn (by omega)
    have lx := lessL_len hn hx.1
    have ly := lessL_len hn hy.1
    obtain ⟨a1, a2⟩ := nth_ok m _ (k / cnt m / (m + 1) % cnt m) (show (lessL N (N.getD (k / cnt m / (m + 1) / cnt m) 0)).length = m by omega) (lessL_nodup hn _) (Nat.mod_lt _ (cnt_pos m))
    obtain ⟨b1, b2⟩ := nth_ok m _ (k % cnt m) (show (lessL N (N.getD (k / cnt m % (m + 1)) 0)).length = m by omega) (lessL_nodup hn _) (Nat.mod_lt _ (cnt_pos m))
    refine ⟨?_, ?_⟩
    · rw [nthF]; exact .node hx.1 hy.1 a1 b1
    · rw [nthF, rankF, show N.length - 1 = m by omega, hm, a2, b2, jx, jy]
      rw [Nat.mul_comm (k / cnt m / (m + 1) / cnt m), Nat.div_add_mod, Nat.mul_comm (k / cnt m / (m + 1)), Nat.div_add_mod, Nat.mul_comm (k / cnt m), Nat.div_add_mod]
theorem names_of {N : List Nat} {f : Fm} (hs : N.Pairwise (· < ·)) (h : OF N f) : signs (planF f) = N :=
  sorted_ext (signs_sorted _) hs fun c => by rw [signs_mem, mem_planF h.v, h.m]
end Dn

set_option Elab.async false
set_option linter.all false
set_option maxRecDepth 100000
set_option maxHeartbeats 4000000
set_option exponentiation.threshold 3000
/-! forms counted and numbered -/
namespace Dn
open PySem L2
theorem cnt_le8 {m : Nat} (h : m ≤ 8) : cnt m < 2 ^ 400 := by
  have : m = 0 ∨ m = 1 ∨ m = 2 ∨ m = 3 ∨ m = 4 ∨ m = 5 ∨ m = 6 ∨ m = 7 ∨ m = 8 := by omega
  rcases this with rfl | rfl | rfl | rfl | rfl | rfl | rfl | rfl | rfl <;> decide +kernel
theorem mulOk_nat {a b : Nat} (ha : a < 2 ^ 2000) (hb : b < 2 ^ 2000) : mulOk (a : Int) (b : Int) = true := by
  have h1 : (a : Int).natAbs < 2 ^ 100000 := Nat.lt_of_lt_of_le (show (a : Int).natAbs < 2 ^ 2000 from ha) (Nat.pow_le_pow_right (by decide) (by decide))
  have h2 : (b : Int).natAbs < 2 ^ 100000 := Nat.lt_of_lt_of_le (show (b : Int).natAbs < 2 ^ 2000 from hb) (Nat.pow_le_pow_right (by decide) (by decide))
  unfold mulOk
  rw [decide_eq_true h1, decide_eq_true h2]
  simp
theorem divOk_nat {b : Nat} (h0 : 0 < b) (hb : b < 2 ^ 2000) : divOk (b : Int) = true := by
  have h2 : (b : Int).natAbs < 2 ^ 8000 := Nat.lt_of_lt_of_le (show (b : Int).natAbs < 2 ^ 2000 from hb) (Nat.pow_le_pow_right (by decide) (by decide))
  unfold divOk
  rw [decide_eq_true h2, decide_eq_true (by omega : (0 : Int) < (b : Int))]
  rfl
theorem many_run (X : Ix) (cl : Nat → List Dv → Hc → Res Dv) (gl : List Dv) (h : Hc) : ∀ m ≤ 8, exs cl gl (B_how_many_forms X) [some (.int (m : Nat)), none, none] h = .ok (.ret (.int (cnt m : Nat))) h := by
  intro m hm
  have : m = 0 ∨ m = 1 ∨ m = 2 ∨ m = 3 ∨ m = 4 ∨ m = 5 ∨ m = 6 ∨ m = 7 ∨ m = 8 := by omega
  rcases this with rfl | rfl | rfl | rfl | rfl | rfl | rfl | rfl | rfl <;> kernel_rfl
theorem findS_idx {N : List Nat} {c : Nat} (h : c ∈ N) : findS N [c] = (N.idxOf c : Nat) := by
  have hl := List.idxOf_lt_length_of_mem h
  have e : N = N.take (N.idxOf c) ++ c :: N.drop (N.idxOf c + 1) := by
    conv => lhs; rw [← List.take_append_drop (N.idxOf c) N]
    rw [List.drop_eq_getElem_cons hl, List.getElem_idxOf hl]
  have hn : c ∉ N.take (N.idxOf c) := by
    intro hc
    have := List.idxOf_append (l₁ := N.take (N.idxOf c)) (l₂ := c :: N.drop (N.idxOf c + 1)) (a := c)
    rw [← e, if_pos hc] at this
    have := List.idxOf_lt_length_of_mem hc
    simp only [List.length_take] at this
    omega
  have := find_split (v := N.drop (N.idxOf c + 1)) hn
  rw [← e, List.length_take, Nat.min_eq_left (Nat.le_of_lt hl)] at this
  exact this
def ascB : List Nat → Bool
  | [] => true
  | x :: r => (r.all fun y => Nat.blt x y) && ascB r
theorem ascB_ok : ∀ {N : List Nat}, ascB N = true → N.Pairwise (· < ·)
  | [], _ => .nil
  | x :: r, h => by
    simp only [ascB, Bool.and_eq_true] at h
    refine .cons (fun y hy => ?_) (ascB_ok h.2)
    have := List.all_eq_true.mp h.1 y hy
    exact Nat.le_of_ble_eq_true this
section
variable {fs : List MFn} {gl : List Dv} {X : Ix}
theorem many_ok (hf : fs[X.how_many_forms]? = some (F_how_many_forms X)) (k m : Nat) (h : Hc) (hm : m ≤ 8) : callF fs gl (k + 1) X.how_many_forms [.int (m : Nat)] h = .ok (.int (cnt m : Nat)) h := by
  rw [callF_in hf rfl]
  show (exs (callF fs gl k) gl (B_how_many_forms X) [some (.int (m : Nat)), none, none] h).bind _ = _
  rw [many_run X _ gl h m hm, Res.bind_ok]
  exact @trim_len h.length (.int (cnt m : Nat)) h rfl
theorem l_count_ok (hf : fs[X.l_count]? = some (F_l_count X)) (k m : Nat) (h : Hc) (hm : m ≤ 8) : callF fs gl (k + 1) X.l_count [.int (m : Nat)] h = .ok (.int (cnt m : Nat)) h := by
  rw [callF_in hf rfl]
  show (exs (callF fs gl k) gl (B_how_many_forms X) [some (.int (m : Nat)), none, none] h).bind _ = _
  rw [many_run X _ gl h m hm, Res.bind_ok]
  exact @trim_len h.length (.int (cnt m : Nat)) h rfl
theorem less_ok (hf : fs[X.less]? = some (F_less X)) (k : Nat) (N : List Nat) (i : Nat) (h : Hc) (hl : N.length ≤ 2 ^ 20) : callF fs gl (k + 1) X.less [.str N, .int (i : Nat)] h = .ok (.str (N.take i ++ N.drop (i + 1))) h := by
  rw [callF_in hf rfl]
  have a := adds_ok (h := h) (N.take i) (N.drop (i + 1)) (by simp; unfold SZ; omega)
  have tl := @trim_len h.length (.str (N.take i ++ N.drop (i + 1))) h rfl
  simp only [F_less, B_less, startD, List.map_cons, List.map_nil, List.replicate, List.length_cons, List.length_nil, Nat.reduceAdd, Nat.reduceSub, List.cons_append, List.nil_append]
  simp -implicitDefEqProofs only [exs_cons, seqF, exs_nil, ex_asg, ex_par, ex_seti, ex_aug, ex_expr, ex_ret, ex_retn, ex_ite, ex_forr, ex_whil, ex_pass, ex_brk, ex_cont, ev_var, ev_cst, ev_glb, ev_bin, ev_cmp, ev_chain, ev_isn, ev_neg, ev_not, ev_bop, ev_ite, ev_tup, ev_lst, ev_new, ev_idx, ev_sl, ev_rev, ev_bi, ev_bi1, ev_mt, ev_call, ev_comp, ev_frz, evs_nil, evs_cons, evB_one, evB_cons, evO_none, evO_some, optF_int, evC_none, evC_some, evI_seq, evI_range1, evI_range2, evI_enum, evI_zip, rngF_int, rngF2_int, enuF_str, enuF_lst, permD, List.getElem?_cons_zero, List.getElem?_cons_succ, List.cons_append, List.nil_append, List.append_nil, List.set_cons_zero, List.set_cons_succ, Res.bind_ok, Res.calm_ok, tg_name, tg_tup1, tg_tup2, tg_tup3, tg_tup4, compF_ap, bodyF_ap, wipeD, List.length_cons, List.length_nil, List.zip_cons_cons, List.zip_nil_right, List.foldl_cons, List.foldl_nil, if_true, if_false, Bool.false_eq_true, Bool.true_eq_false, truth_bl, truth_str, truth_int, truth_lst, truth_tup, truth_non, Bool.not_true, Bool.not_false, beq_self_eq_true, Nat.zero_add, Nat.reduceAdd, Nat.reduceSub, SZ0, SZ1, SZ2, SZ3, SZ4, SZ5, SZ6, SZ7, SZ8, bin_add, bin_sub, cmp_lt, cmp_le, cmp_gt, cmp_ge, cmp_eqi, cmp_nei, cmp_eqs, cmp_nes, cmp_eqb, cmp_neb, cmp_inns, cmp_nins, bi_int, bi_intb, bi_abs, bi_lens, bi_lent, bi_lenl, seqD_str, seqD_tup, seqD_lst, rev_str, neg_int, endR, beq_tt, beq_ff, beq_tf, beq_ft, Bool.and_true, Bool.and_false, Bool.true_and, Bool.false_and, Bool.or_true, Bool.or_false, Bool.true_or, Bool.false_or, sls_take, sls_drop1, a, tl]
theorem nth_form_ok (hf : fs[X.nth_form]? = some (F_nth_form X)) (hm : fs[X.how_many_forms]? = some (F_how_many_forms X)) (hl : fs[X.less]? = some (F_less X)) :
    ∀ (m k : Nat) (N : List Nat) (n : Nat) (h : Hc), N.length = m → m ≤ 8 → N.Nodup → n < cnt m → callF fs gl (k + m + 2) X.nth_form [.str N, .int (n : Nat)] h = .ok (fmD (nthF m N n)) h := by
  intro m
  induction m with
  | zero =>
    intro k N n h hN _ hd hn
    have : N = [] := List.length_eq_zero_iff.mp hN
    subst this
    rw [callF_in hf rfl]
    have e1 := many_ok (gl := gl) hm k 0 h (by omega)
    have l1 : decide ((0 : Int) ≤ (n : Nat)) = true := decide_eq_true (by omega)
    have l2 : decide (((n : Nat) : Int) < ((cnt 0 : Nat) : Int)) = true := decide_eq_true (by omega)
    have tl := @trim_len h.length (.tup []) h rfl
    simp only [F_nth_form, B_nth_form, nthF, fmD, startD, List.map_cons, List.map_nil, List.replicate, List.length_cons, List.length_nil, Nat.reduceAdd, Nat.reduceSub, List.cons_append, List.nil_append]
    simp -implicitDefEqProofs only [exs_cons, seqF, exs_nil, ex_asg, ex_par, ex_seti, ex_aug, ex_expr, ex_ret, ex_retn, ex_ite, ex_forr, ex_whil, ex_pass, ex_brk, ex_cont, ev_var, ev_cst, ev_glb, ev_bin, ev_cmp, ev_chain, ev_isn, ev_neg, ev_not, ev_bop, ev_ite, ev_tup, ev_lst, ev_new, ev_idx, ev_sl, ev_rev, ev_bi, ev_bi1, ev_mt, ev_call, ev_comp, ev_frz, evs_nil, evs_cons, evB_one, evB_cons, evO_none, evO_some, optF_int, evC_none, evC_some, evI_seq, evI_range1, evI_range2, evI_enum, evI_zip, rngF_int, rngF2_int, enuF_str, enuF_lst, permD, List.getElem?_cons_zero, List.getElem?_cons_succ, List.cons_append, List.nil_append, List.append_nil, List.set_cons_zero, List.set_cons_succ, Res.bind_ok, Res.calm_ok, tg_name, tg_tup1, tg_tup2, tg_tup3, tg_tup4, compF_ap, bodyF_ap, wipeD, List.length_cons, List.length_nil, List.zip_cons_cons, List.zip_nil_right, List.foldl_cons, List.foldl_nil, if_true, if_false, Bool.false_eq_true, Bool.true_eq_false, truth_bl, truth_str, truth_int, truth_lst, truth_tup, truth_non, Bool.not_true, Bool.not_false, beq_self_eq_true, Nat.zero_add, Nat.reduceAdd, Nat.reduceSub, SZ0, SZ1, SZ2, SZ3, SZ4, SZ5, SZ6, SZ7, SZ8, bin_add, bin_sub, cmp_lt, cmp_le, cmp_gt, cmp_ge, cmp_eqi, cmp_nei, cmp_eqs, cmp_nes, cmp_eqb, cmp_neb, cmp_inns, cmp_nins, bi_int, bi_intb, bi_abs, bi_lens, bi_lent, bi_lenl, seqD_str, seqD_tup, seqD_lst, rev_str, neg_int, endR, beq_tt, beq_ff, beq_tf, beq_ft, Bool.and_true, Bool.and_false, Bool.true_and, Bool.false_and, Bool.or_true, Bool.or_false, Bool.true_or, Bool.false_or, l1, e1, l2, tl]
  | succ m ih =>
    intro k N n h hN h8 hd hn
    have ek : k + (m + 1) + 2 = k + m + 2 + 1 := by omega
    rw [ek, callF_in hf rfl]
    have f8 := cnt_le8 (m := m) (by omega)
    have f0 := cnt_pos m
    have f9 := cnt_le8 h8
    have e1 := many_ok (gl := gl) hm (k + m + 1) (m + 1) h (by omega)
    have e2 := many_ok (gl := gl) hm (k + m + 1) m h (by omega)
    have p4 : (2 : Nat) ^ 400 < 2 ^ 2000 := Nat.pow_lt_pow_right (by decide) (by decide)
    have dk := divOk_nat f0 (Nat.lt_trans f8 p4)
    have dn := divOk_nat (b := m + 1) (by omega) (Nat.lt_of_le_of_lt h8 (show 8 < 2 ^ 2000 from Nat.lt_trans (by decide) p4))
    have c1 := div_bound hn
    have c2 : n / cnt m % (m + 1) < m + 1 := Nat.mod_lt _ (Nat.succ_pos _)
    have hx := getD_mem (N := N) (i := n / cnt m / (m + 1) / cnt m) (by omega)
    have hy := getD_mem (N := N) (i := n / cnt m % (m + 1)) (by omega)
    have q1 := less_ok (gl := gl) hl (k + m + 1) N (n / cnt m / (m + 1) / cnt m) h (by omega)
    have q2 := less_ok (gl := gl) hl (k + m + 1) N (n / cnt m % (m + 1)) h (by omega)
    rw [lessL_at hd hx.2] at q1
    rw [lessL_at hd hy.2] at q2
    have lx := lessL_len hd hx.1
    have ly := lessL_len hd hy.1
    have r1 := ih k (lessL N (N.getD (n / cnt m / (m + 1) / cnt m) 0)) (n / cnt m / (m + 1) % cnt m) h (by omega) (by omega) (lessL_nodup hd _) (Nat.mod_lt _ f0)
    have r2 := ih k (lessL N (N.getD (n / cnt m % (m + 1)) 0)) (n % cnt m) h (by omega) (by omega) (lessL_nodup hd _) (Nat.mod_lt _ f0)
    have i1 := idxS_nat (h := h) hx.2
    have i2 := idxS_nat (h := h) hy.2
    have l1 : decide ((0 : Int) ≤ (n : Nat)) = true := decide_eq_true (by omega)
    have l2 : decide (((n : Nat) : Int) < ((cnt (m + 1) : Nat) : Int)) = true := decide_eq_true (by omega)
    have ne : (N == ([] : List Nat)) = false := by
      cases N with
      | nil => simp at hN
      | cons a b => rfl
    have cm1 : ((m + 1 : Nat) : Int) - 1 = ((m : Nat) : Int) := by omega
    have z8 : SZok N.length = true := SZok_iff.mpr (by unfold SZ; omega)
    have t1 : ∀ (a b : Nat), ((a : Nat) : Int) / ((b : Nat) : Int) = ((a / b : Nat) : Int) := fun a b => (Int.natCast_ediv a b).symm
    have t2 : ∀ (a b : Nat), ((a : Nat) : Int) % ((b : Nat) : Int) = ((a % b : Nat) : Int) := fun a b => (Int.natCast_emod a b).symm
    have tl := @trim_len h.length (fmD (nthF (m + 1) N n)) h rfl
    have p1 : (0 : Int) < ((cnt m : Nat) : Int) := by omega
    have p2 : (0 : Int) < ((m + 1 : Nat) : Int) := by omega
    simp only [nthF, fmD] at tl ⊢
    simp only [F_nth_form, B_nth_form, startD, List.map_cons, List.map_nil, List.replicate, List.length_cons, List.length_nil, Nat.reduceAdd, Nat.reduceSub, List.cons_append, List.nil_append]
    simp -implicitDefEqProofs only [exs_cons, seqF, exs_nil, ex_asg, ex_par, ex_seti, ex_aug, ex_expr, ex_ret, ex_retn, ex_ite, ex_forr, ex_whil, ex_pass, ex_brk, ex_cont, ev_var, ev_cst, ev_glb, ev_bin, ev_cmp, ev_chain, ev_isn, ev_neg, ev_not, ev_bop, ev_ite, ev_tup, ev_lst, ev_new, ev_idx, ev_sl, ev_rev, ev_bi, ev_bi1, ev_mt, ev_call, ev_comp, ev_frz, evs_nil, evs_cons, evB_one, evB_cons, evO_none, evO_some, optF_int, evC_none, evC_some, evI_seq, evI_range1, evI_range2, evI_enum, evI_zip, rngF_int, rngF2_int, enuF_str, enuF_lst, permD, List.getElem?_cons_zero, List.getElem?_cons_succ, List.cons_append, List.nil_append, List.append_nil, List.set_cons_zero, List.set_cons_succ, Res.bind_ok, Res.calm_ok, tg_name, tg_tup1, tg_tup2, tg_tup3, tg_tup4, compF_ap, bodyF_ap, wipeD, List.length_cons, List.length_nil, List.zip_cons_cons, List.zip_nil_right, List.foldl_cons, List.foldl_nil, if_true, if_false, Bool.false_eq_true, Bool.true_eq_false, truth_bl, truth_str, truth_int, truth_lst, truth_tup, truth_non, Bool.not_true, Bool.not_false, beq_self_eq_true, Nat.zero_add, Nat.reduceAdd, Nat.reduceSub, SZ0, SZ1, SZ2, SZ3, SZ4, SZ5, SZ6, SZ7, SZ8, bin_add, bin_sub, cmp_lt, cmp_le, cmp_gt, cmp_ge, cmp_eqi, cmp_nei, cmp_eqs, cmp_nes, cmp_eqb, cmp_neb, cmp_inns, cmp_nins, bi_int, bi_intb, bi_abs, bi_lens, bi_lent, bi_lenl, seqD_str, seqD_tup, seqD_lst, rev_str, neg_int, endR, beq_tt, beq_ff, beq_tf, beq_ft, Bool.and_true, Bool.and_false, Bool.true_and, Bool.false_and, Bool.or_true, Bool.or_false, Bool.true_or, Bool.false_or, z8, hN, l1, e1, l2, ne, cm1, e2, bin_fdiv dk, bin_mod p1, t1, t2, bin_fdiv dn, bin_mod p2, q1, r1, i1, i2, q2, r2, tl]
theorem nth_out_ok (hf : fs[X.nth_form]? = some (F_nth_form X)) (hm : fs[X.how_many_forms]? = some (F_how_many_forms X)) (k : Nat) (N : List Nat) (n : Int) (h : Hc) (h8 : N.length ≤ 8) (hn : n < 0 ∨ (cnt N.length : Nat) ≤ n) :
    callF fs gl (k + 2) X.nth_form [.str N, .int n] h = .ok .non h := by
  rw [callF_in hf rfl]
  have e1 := many_ok (gl := gl) hm k N.length h h8
  have z8 : SZok N.length = true := SZok_iff.mpr (by unfold SZ; omega)
  have tl := @trim_len h.length .non h rfl
  simp only [F_nth_form, B_nth_form, startD, List.map_cons, List.map_nil, List.replicate, List.length_cons, List.length_nil, Nat.reduceAdd, Nat.reduceSub, List.cons_append, List.nil_append]
  by_cases z : (0 : Int) ≤ n
  · have l1 : decide ((0 : Int) ≤ n) = true := decide_eq_true z
    have l2 : decide (n < ((cnt N.length : Nat) : Int)) = false := decide_eq_false (by omega)
    simp -implicitDefEqProofs only [exs_cons, seqF, exs_nil, ex_asg, ex_par, ex_seti, ex_aug, ex_expr, ex_ret, ex_retn, ex_ite, ex_forr, ex_whil, ex_pass, ex_brk, ex_cont, ev_var, ev_cst, ev_glb, ev_bin, ev_cmp, ev_chain, ev_isn, ev_neg, ev_not, ev_bop, ev_ite, ev_tup, ev_lst, ev_new, ev_idx, ev_sl, ev_rev, ev_bi, ev_bi1, ev_mt, ev_call, ev_comp, ev_frz, evs_nil, evs_cons, evB_one, evB_cons, evO_none, evO_some, optF_int, evC_none, evC_some, evI_seq, evI_range1, evI_range2, evI_enum, evI_zip, rngF_int, rngF2_int, enuF_str, enuF_lst, permD, List.getElem?_cons_zero, List.getElem?_cons_succ, List.cons_append, List.nil_append, List.append_nil, List.set_cons_zero, List.set_cons_succ, Res.bind_ok, Res.calm_ok, tg_name, tg_tup1, tg_tup2, tg_tup3, tg_tup4, compF_ap, bodyF_ap, wipeD, List.length_cons, List.length_nil, List.zip_cons_cons, List.zip_nil_right, List.foldl_cons, List.foldl_nil, if_true, if_false, Bool.false_eq_true, Bool.true_eq_false, truth_bl, truth_str, truth_int, truth_lst, truth_tup, truth_non, Bool.not_true, Bool.not_false, beq_self_eq_true, Nat.zero_add, Nat.reduceAdd, Nat.reduceSub, SZ0, SZ1, SZ2, SZ3, SZ4, SZ5, SZ6, SZ7, SZ8, bin_add, bin_sub, cmp_lt, cmp_le, cmp_gt, cmp_ge, cmp_eqi, cmp_nei, cmp_eqs, cmp_nes, cmp_eqb, cmp_neb, cmp_inns, cmp_nins, bi_int, bi_intb, bi_abs, bi_lens, bi_lent, bi_lenl, seqD_str, seqD_tup, seqD_lst, rev_str, neg_int, endR, beq_tt, beq_ff, beq_tf, beq_ft, Bool.and_true, Bool.and_false, Bool.true_and, Bool.false_and, Bool.or_true, Bool.or_false, Bool.true_or, Bool.false_or, z8, l1, e1, l2, tl]
  · have l1 : decide ((0 : Int) ≤ n) = false := decide_eq_false z
    simp -implicitDefEqProofs only [exs_cons, seqF, exs_nil, ex_asg, ex_par, ex_seti, ex_aug, ex_expr, ex_ret, ex_retn, ex_ite, ex_forr, ex_whil, ex_pass, ex_brk, ex_cont, ev_var, ev_cst, ev_glb, ev_bin, ev_cmp, ev_chain, ev_isn, ev_neg, ev_not, ev_bop, ev_ite, ev_tup, ev_lst, ev_new, ev_idx, ev_sl, ev_rev, ev_bi, ev_bi1, ev_mt, ev_call, ev_comp, ev_frz, evs_nil, evs_cons, evB_one, evB_cons, evO_none, evO_some, optF_int, evC_none, evC_some, evI_seq, evI_range1, evI_range2, evI_enum, evI_zip, rngF_int, rngF2_int, enuF_str, enuF_lst, permD, List.getElem?_cons_zero, List.getElem?_cons_succ, List.cons_append, List.nil_append, List.append_nil, List.set_cons_zero, List.set_cons_succ, Res.bind_ok, Res.calm_ok, tg_name, tg_tup1, tg_tup2, tg_tup3, tg_tup4, compF_ap, bodyF_ap, wipeD, List.length_cons, List.length_nil, List.zip_cons_cons, List.zip_nil_right, List.foldl_cons, List.foldl_nil, if_true, if_false, Bool.false_eq_true, Bool.true_eq_false, truth_bl, truth_str, truth_int, truth_lst, truth_tup, truth_non, Bool.not_true, Bool.not_false, beq_self_eq_true, Nat.zero_add, Nat.reduceAdd, Nat.reduceSub, SZ0, SZ1, SZ2, SZ3, SZ4, SZ5, SZ6, SZ7, SZ8, bin_add, bin_sub, cmp_lt, cmp_le, cmp_gt, cmp_ge, cmp_eqi, cmp_nei, cmp_eqs, cmp_nes, cmp_eqb, cmp_neb, cmp_inns, cmp_nins, bi_int, bi_intb, bi_abs, bi_lens, bi_lent, bi_lenl, seqD_str, seqD_tup, seqD_lst, rev_str, neg_int, endR, beq_tt, beq_ff, beq_tf, beq_ft, Bool.and_true, Bool.and_false, Bool.true_and, Bool.false_and, Bool.or_true, Bool.or_false, Bool.true_or, Bool.false_or, z8, l1, e1, tl]
theorem OF.ff {N : List Nat} {f : Fm} (h : OF N f) (p : Pl N) : FF f := ⟨h.v, fun c hc => p c ((h.m c).mp hc)⟩
theorem l_names_ok (hf : fs[X.l_names]? = some (F_l_names X)) (hp : fs[X.l_plan_of]? = some (F_l_plan_of X)) (k : Nat) (N : List Nat) (f : Fm) (h : Hc) (hs : N.Pairwise (· < ·)) (pn : Pl N) (of : OF N f) :
    callF fs gl (k + 11) X.l_names [fmD f] h = .ok (.str N) h := by
  rw [callF_in hf rfl]
  have e1 := l_plan_of_ok (gl := gl) hp 9 k f h (by have := (of.ff pn).dp; omega) (by omega) of.v
  have n8 : N.length ≤ 8 := len_nodup (b := ABC) (hs.imp fun h => by omega) pn
  have ss : biD .sset [.str (planF f)] h = .ok (.lst (N.map fun c => .str [c])) h := by
    show (if (signs (planF f)).length < 64 then _ else _) = _
    rw [names_of hs of, if_pos (by omega)]
  have jn := join1_ok (h := h) (cs := N) (by unfold SZ; omega)
  have tl := @trim_len h.length (.str N) h rfl
  simp only [F_l_names, B_l_names, startD, List.map_cons, List.map_nil, List.replicate, List.length_cons, List.length_nil, Nat.reduceAdd, Nat.reduceSub, List.cons_append, List.nil_append]
  simp -implicitDefEqProofs only [exs_cons, seqF, exs_nil, ex_asg, ex_par, ex_seti, ex_aug, ex_expr, ex_ret, ex_retn, ex_ite, ex_forr, ex_whil, ex_pass, ex_brk, ex_cont, ev_var, ev_cst, ev_glb, ev_bin, ev_cmp, ev_chain, ev_isn, ev_neg, ev_not, ev_bop, ev_ite, ev_tup, ev_lst, ev_new, ev_idx, ev_sl, ev_rev, ev_bi, ev_bi1, ev_mt, ev_call, ev_comp, ev_frz, evs_nil, evs_cons, evB_one, evB_cons, evO_none, evO_some, optF_int, evC_none, evC_some, evI_seq, evI_range1, evI_range2, evI_enum, evI_zip, rngF_int, rngF2_int, enuF_str, enuF_lst, permD, List.getElem?_cons_zero, List.getElem?_cons_succ, List.cons_append, List.nil_append, List.append_nil, List.set_cons_zero, List.set_cons_succ, Res.bind_ok, Res.calm_ok, tg_name, tg_tup1, tg_tup2, tg_tup3, tg_tup4, compF_ap, bodyF_ap, wipeD, List.length_cons, List.length_nil, List.zip_cons_cons, List.zip_nil_right, List.foldl_cons, List.foldl_nil, if_true, if_false, Bool.false_eq_true, Bool.true_eq_false, truth_bl, truth_str, truth_int, truth_lst, truth_tup, truth_non, Bool.not_true, Bool.not_false, beq_self_eq_true, Nat.zero_add, Nat.reduceAdd, Nat.reduceSub, SZ0, SZ1, SZ2, SZ3, SZ4, SZ5, SZ6, SZ7, SZ8, bin_add, bin_sub, cmp_lt, cmp_le, cmp_gt, cmp_ge, cmp_eqi, cmp_nei, cmp_eqs, cmp_nes, cmp_eqb, cmp_neb, cmp_inns, cmp_nins, bi_int, bi_intb, bi_abs, bi_lens, bi_lent, bi_lenl, seqD_str, seqD_tup, seqD_lst, rev_str, neg_int, endR, beq_tt, beq_ff, beq_tf, beq_ft, Bool.and_true, Bool.and_false, Bool.true_and, Bool.false_and, Bool.or_true, Bool.or_false, Bool.true_or, Bool.false_or, e1, ss, mtOk_join, jn, tl]
theorem dig_bounds {i r1 j few n : Nat} (hi : i < n) (h1 : r1 < few) (hj : j < n) : i * few + r1 < n * few * n * few ∧ (i * few + r1) * n + j < n * few * n * few := by
  have hf : 0 < few := by omega
  have hn : 0 < n := by omega
  have a1 : i * few + r1 + 1 ≤ n * few := by
    have : (i + 1) * few ≤ n * few := Nat.mul_le_mul_right _ hi
    rw [Nat.add_mul] at this; omega
  have a2 : (i * few + r1) * n + j + 1 ≤ n * few * n := by
    have : (i * few + r1 + 1) * n ≤ n * few * n := Nat.mul_le_mul_right _ a1
    rw [Nat.add_mul] at this; omega
  have b1 : n * few ≤ n * few * n := Nat.le_mul_of_pos_right _ hn
  have b2 : n * few * n ≤ n * few * n * few := Nat.le_mul_of_pos_right _ hf
  omega
theorem idx_q0 {h : Hc} (a b c d : Dv) : idxD (.tup [a, b, c, d]) (.int 0) h = .ok a h := rfl
theorem idx_q1 {h : Hc} (a b c d : Dv) : idxD (.tup [a, b, c, d]) (.int 1) h = .ok b h := rfl
theorem idx_q2 {h : Hc} (a b c d : Dv) : idxD (.tup [a, b, c, d]) (.int 2) h = .ok c h := rfl
theorem idx_q3 {h : Hc} (a b c d : Dv) : idxD (.tup [a, b, c, d]) (.int 3) h = .ok d h := rfl
theorem l_rank_ok (hf : fs[X.l_rank]? = some (F_l_rank X)) (hn : fs[X.l_names]? = some (F_l_names X)) (hp : fs[X.l_plan_of]? = some (F_l_plan_of X)) (hc : fs[X.l_count]? = some (F_l_count X)) :
    ∀ (m k : Nat) (N : List Nat) (f : Fm) (h : Hc), N.length = m → N.Pairwise (· < ·) → Pl N → OF N f → callF fs gl (k + m + 12) X.l_rank [fmD f] h = .ok (.int (rankF f N : Nat)) h := by
  intro m
  induction m with
  | zero =>
    intro k N f h hm hs pn of
    have : N = [] := List.length_eq_zero_iff.mp hm
    subst this
    rw [of.of_nil, callF_in hf rfl]
    have c := cmp_eq_self (h := h) (d := .tup []) (n := 1) rfl (by omega)
    have tl := @trim_len h.length (.int ((0 : Nat) : Int)) h rfl
    simp only [F_l_rank, B_l_rank, fmD, rankF, startD, List.map_cons, List.map_nil, List.replicate, List.length_cons, List.length_nil, Nat.reduceAdd, Nat.reduceSub, List.cons_append, List.nil_append]
    simp -implicitDefEqProofs only [exs_cons, seqF, exs_nil, ex_asg, ex_par, ex_seti, ex_aug, ex_expr, ex_ret, ex_retn, ex_ite, ex_forr, ex_whil, ex_pass, ex_brk, ex_cont, ev_var, ev_cst, ev_glb, ev_bin, ev_cmp, ev_chain, ev_isn, ev_neg, ev_not, ev_bop, ev_ite, ev_tup, ev_lst, ev_new, ev_idx, ev_sl, ev_rev, ev_bi, ev_bi1, ev_mt, ev_call, ev_comp, ev_frz, evs_nil, evs_cons, evB_one, evB_cons, evO_none, evO_some, optF_int, evC_none, evC_some, evI_seq, evI_range1, evI_range2, evI_enum, evI_zip, rngF_int, rngF2_int, enuF_str, enuF_lst, permD, List.getElem?_cons_zero, List.getElem?_cons_succ, List.cons_append, List.nil_append, List.append_nil, List.set_cons_zero, List.set_cons_succ, Res.bind_ok, Res.calm_ok, tg_name, tg_tup1, tg_tup2, tg_tup3, tg_tup4, compF_ap, bodyF_ap, wipeD, List.length_cons, List.length_nil, List.zip_cons_cons, List.zip_nil_right, List.foldl_cons, List.foldl_nil, if_true, if_false, Bool.false_eq_true, Bool.true_eq_false, truth_bl, truth_str, truth_int, truth_lst, truth_tup, truth_non, Bool.not_true, Bool.not_false, beq_self_eq_true, Nat.zero_add, Nat.reduceAdd, Nat.reduceSub, SZ0, SZ1, SZ2, SZ3, SZ4, SZ5, SZ6, SZ7, SZ8, bin_add, bin_sub, cmp_lt, cmp_le, cmp_gt, cmp_ge, cmp_eqi, cmp_nei, cmp_eqs, cmp_nes, cmp_eqb, cmp_neb, cmp_inns, cmp_nins, bi_int, bi_intb, bi_abs, bi_lens, bi_lent, bi_lenl, seqD_str, seqD_tup, seqD_lst, rev_str, neg_int, endR, beq_tt, beq_ff, beq_tf, beq_ft, Bool.and_true, Bool.and_false, Bool.true_and, Bool.false_and, Bool.or_true, Bool.or_false, Bool.true_or, Bool.false_or, c, tl]
    exact tl
  | succ m ih =>
    intro k N f h hm hs pn of
    cases f with
    | nil => rw [of.ne] at hm; simp at hm
    | node a x y b =>
      have nd : N.Nodup := hs.imp fun h => by omega
      have n8 : N.length ≤ 8 := len_nodup (b := ABC) nd pn
      obtain ⟨hx, hy, ha, hb⟩ := of.parts
      have lx := lessL_len nd hx
      have ly := lessL_len nd hy
      have pa : Pl (lessL N x) := fun c hc => pn c (mem_lessL.mp hc).1
      have pb : Pl (lessL N y) := fun c hc => pn c (mem_lessL.mp hc).1
      have r1 := ih k (lessL N x) a h (by omega) (lessL_sorted hs x) pa ha
      have r2 := ih k (lessL N y) b h (by omega) (lessL_sorted hs y) pb hb
      have b1 := (rank_lt m (lessL N x) a (by omega) (lessL_nodup nd x) ha).1
      have b2 := (rank_lt m (lessL N y) b (by omega) (lessL_nodup nd y) hb).1
      have ix : N.idxOf x < m + 1 := hm ▸ List.idxOf_lt_length_of_mem hx
      have iy : N.idxOf y < m + 1 := hm ▸ List.idxOf_lt_length_of_mem hy
      obtain ⟨d1, d2⟩ := dig_bounds ix b1 iy
      have f8 := cnt_le8 (m := m) (by omega)
      have f9 := cnt_le8 (m := m + 1) (by omega)
      rw [cnt] at f9
      have p4 : (2 : Nat) ^ 400 < 2 ^ 2000 := Nat.pow_lt_pow_right (by decide) (by decide)
      have g8 := Nat.lt_trans f8 p4
      have sm : ∀ a : Nat, a ≤ 8 → a < 2 ^ 2000 := fun a ha => Nat.lt_of_le_of_lt ha (Nat.lt_trans (by decide) p4)
      have m1 := bin_mul (h := h) (mulOk_nat (a := N.idxOf x) (b := cnt m) (sm _ (by omega)) g8)
      have m2 := bin_mul (h := h) (mulOk_nat (a := N.idxOf x * cnt m + rankF a (lessL N x)) (b := m + 1) (Nat.lt_trans d1 (Nat.lt_trans f9 p4)) (sm _ (by omega)))
      have m3 := bin_mul (h := h) (mulOk_nat (a := (N.idxOf x * cnt m + rankF a (lessL N x)) * (m + 1) + N.idxOf y) (b := cnt m) (Nat.lt_trans d2 (Nat.lt_trans f9 p4)) g8)
      have ek : k + (m + 1) + 12 = k + m + 12 + 1 := by omega
      rw [ek, callF_in hf rfl]
      have e1 := l_names_ok (gl := gl) hn hp (k + m + 1) N (.node a x y b) h hs pn of
      have e2 := l_count_ok (gl := gl) hc (k + m + 11) m h (by omega)
      have c0 : cmpD .eq (.tup [fmD a, chD x, chD y, fmD b]) (.tup []) h = .ok (.bl false) h := cmp_fmD (h := h) (f := .node a x y b) (g := .nil) (by have := (of.ff pn).dp; omega) (by simp [dpF])
      have z8 : SZok N.length = true := SZok_iff.mpr (by unfold SZ; omega)
      have cm1 : ((m + 1 : Nat) : Int) - 1 = ((m : Nat) : Int) := by omega
      have em : N.length - 1 = m := by omega
      have tm : ∀ (a b : Nat), ((a : Nat) : Int) * ((b : Nat) : Int) = ((a * b : Nat) : Int) := fun a b => (Int.natCast_mul a b).symm
      have ta : ∀ (a b : Nat), ((a : Nat) : Int) + ((b : Nat) : Int) = ((a + b : Nat) : Int) := fun a b => (Int.natCast_add a b).symm
      have tl := @trim_len h.length (.int (rankF (.node a x y b) N : Nat)) h rfl
      simp only [rankF, hm, Nat.add_sub_cancel] at tl ⊢
      simp only [fmD] at e1
      have ek2 : k + m + 1 + 11 = k + m + 12 := by omega
      rw [ek2] at e1
      simp only [F_l_rank, B_l_rank, fmD, startD, List.map_cons, List.map_nil, List.replicate, List.length_cons, List.length_nil, Nat.reduceAdd, Nat.reduceSub, List.cons_append, List.nil_append]
      simp -implicitDefEqProofs only [exs_cons, seqF, exs_nil, ex_asg, ex_par, ex_seti, ex_aug, ex_expr, ex_ret, ex_retn, ex_ite, ex_forr, ex_whil, ex_pass, ex_brk, ex_cont, ev_var, ev_cst, ev_glb, ev_bin, ev_cmp, ev_chain, ev_isn, ev_neg, ev_not, ev_bop, ev_ite, ev_tup, ev_lst, ev_new, ev_idx, ev_sl, ev_rev, ev_bi, ev_bi1, ev_mt, ev_call, ev_comp, ev_frz, evs_nil, evs_cons, evB_one, evB_cons, evO_none, evO_some, optF_int, evC_none, evC_some, evI_seq, evI_range1, evI_range2, evI_enum, evI_zip, rngF_int, rngF2_int, enuF_str, enuF_lst, permD, List.getElem?_cons_zero, List.getElem?_cons_succ, List.cons_append, List.nil_append, List.append_nil, List.set_cons_zero, List.set_cons_succ, Res.bind_ok, Res.calm_ok, tg_name, tg_tup1, tg_tup2, tg_tup3, tg_tup4, compF_ap, bodyF_ap, wipeD, List.length_cons, List.length_nil, List.zip_cons_cons, List.zip_nil_right, List.foldl_cons, List.foldl_nil, if_true, if_false, Bool.false_eq_true, Bool.true_eq_false, truth_bl, truth_str, truth_int, truth_lst, truth_tup, truth_non, Bool.not_true, Bool.not_false, beq_self_eq_true, Nat.zero_add, Nat.reduceAdd, Nat.reduceSub, SZ0, SZ1, SZ2, SZ3, SZ4, SZ5, SZ6, SZ7, SZ8, bin_add, bin_sub, cmp_lt, cmp_le, cmp_gt, cmp_ge, cmp_eqi, cmp_nei, cmp_eqs, cmp_nes, cmp_eqb, cmp_neb, cmp_inns, cmp_nins, bi_int, bi_intb, bi_abs, bi_lens, bi_lent, bi_lenl, seqD_str, seqD_tup, seqD_lst, rev_str, neg_int, endR, beq_tt, beq_ff, beq_tf, beq_ft, Bool.and_true, Bool.and_false, Bool.true_and, Bool.false_and, Bool.or_true, Bool.or_false, Bool.true_or, Bool.false_or, c0, e1, z8, hm, cm1, e2, mtOk_find, mt_find1, idx_q0, idx_q1, idx_q2, idx_q3, findS_idx hx, findS_idx hy, m1, tm, ta, r1, m2, m3, r2, tl]
theorem sorted_lt {ds : List Nat} (h : ds.Pairwise (· ≤ ·)) (n : ds.Nodup) : ds.Pairwise (· < ·) :=
  (h.and n).imp fun ⟨a, b⟩ => by omega
theorem chosen_bx (hf : fs[X.l_chosen]? = some (F_l_chosen X)) (hm : fs[X.l_mixed]? = some (F_l_mixed X)) (ht : fs[X.l_take]? = some (F_l_take X))
    {k N n m : Nat} {h : Hc} (bx : BX N h n) (hN : N < 2 ^ 50) (hm8 : m ≤ 8) :
    ∃ (ds : List Nat) (h' : Hc), callF fs gl (k + 3) X.l_chosen [.loc n, .int (m : Nat)] h = .ok (.str ds) h' ∧ ds.Pairwise (· < ·) ∧ Pl ds ∧ BX (N + 100) h' n ∧ (h'.length = h.length ∧ Fr n h h') := by
  have hm' : fs[X.l_mixed]? = some (fMix X.l_take) := hm
  have ht' : fs[X.l_take]? = some fTake := ht
  obtain ⟨ys, h1, e1, p1, b1, l1⟩ := mix_bx (gl := gl) (k := k) hm' ht' chD (fun _ => rfl) (xs := ABC) bx (by decide) (by simp; omega)
  obtain ⟨v, h2, e2, v2, b2, l2⟩ := take_bx (gl := gl) (k := k + 1) ht' b1 (B := (m : Int) + 1) (by simp; omega) (by omega) (by omega) []
  simp only [List.append_nil] at e2
  have yl : ys.length = 8 := p1.length_eq
  obtain ⟨ds, dp, dsort, dso⟩ := sorted_chs (ys.take v) (by rw [List.length_take]; omega)
  have nd : ys.Nodup := p1.nodup_iff.mpr (by decide)
  have dn : ds.Nodup := dp.nodup_iff.mpr ((List.take_sublist v ys).nodup nd)
  have dl : ds.length ≤ 8 := by rw [dp.length_eq, List.length_take]; omega
  refine ⟨ds, h2, ?_, sorted_lt dsort dn, fun c hc => p1.mem_iff.mp (List.mem_of_mem_take (dp.mem_iff.mp hc)), b2.le (by simp), by omega, l1.2.trans l2.2⟩
  rw [callF_in hf rfl]
  have jn := join1_ok (h := h2) (cs := ds) (by unfold SZ; omega)
  have tl := @trim_len h2.length (.str ds) h2 rfl
  have ll : h2.length = h.length := by omega
  rw [ll] at tl
  simp only [F_l_chosen, B_l_chosen, startD, List.map_cons, List.map_nil, List.replicate, List.length_cons, List.length_nil, Nat.reduceAdd, Nat.reduceSub, List.cons_append, List.nil_append]
  simp -implicitDefEqProofs only [exs_cons, seqF, exs_nil, ex_asg, ex_par, ex_seti, ex_aug, ex_expr, ex_ret, ex_retn, ex_ite, ex_forr, ex_whil, ex_pass, ex_brk, ex_cont, ev_var, ev_cst, ev_glb, ev_bin, ev_cmp, ev_chain, ev_isn, ev_neg, ev_not, ev_bop, ev_ite, ev_tup, ev_lst, ev_new, ev_idx, ev_sl, ev_rev, ev_bi, ev_bi1, ev_mt, ev_call, ev_comp, ev_frz, evs_nil, evs_cons, evB_one, evB_cons, evO_none, evO_some, optF_int, evC_none, evC_some, evI_seq, evI_range1, evI_range2, evI_enum, evI_zip, rngF_int, rngF2_int, enuF_str, enuF_lst, permD, List.getElem?_cons_zero, List.getElem?_cons_succ, List.cons_append, List.nil_append, List.append_nil, List.set_cons_zero, List.set_cons_succ, Res.bind_ok, Res.calm_ok, tg_name, tg_tup1, tg_tup2, tg_tup3, tg_tup4, compF_ap, bodyF_ap, wipeD, List.length_cons, List.length_nil, List.zip_cons_cons, List.zip_nil_right, List.foldl_cons, List.foldl_nil, if_true, if_false, Bool.false_eq_true, Bool.true_eq_false, truth_bl, truth_str, truth_int, truth_lst, truth_tup, truth_non, Bool.not_true, Bool.not_false, beq_self_eq_true, Nat.zero_add, Nat.reduceAdd, Nat.reduceSub, SZ0, SZ1, SZ2, SZ3, SZ4, SZ5, SZ6, SZ7, SZ8, bin_add, bin_sub, cmp_lt, cmp_le, cmp_gt, cmp_ge, cmp_eqi, cmp_nei, cmp_eqs, cmp_nes, cmp_eqb, cmp_neb, cmp_inns, cmp_nins, bi_int, bi_intb, bi_abs, bi_lens, bi_lent, bi_lenl, seqD_str, seqD_tup, seqD_lst, rev_str, neg_int, endR, beq_tt, beq_ff, beq_tf, beq_ft, Bool.and_true, Bool.and_false, Bool.true_and, Bool.false_and, Bool.or_true, Bool.or_false, Bool.true_or, Bool.false_or, list_str, e1, e2, sl_take, dso, mtOk_join, jn, tl]
def nthV (N : List Nat) (n : Int) : Dv := match n with
  | .ofNat k => (match Nat.ble (cnt N.length) k with
    | true => .non
    | false => fmD (nthF N.length N k))
  | .negSucc _ => .non
theorem nth_row (hf : fs[X.nth_form]? = some (F_nth_form X)) (hm : fs[X.how_many_forms]? = some (F_how_many_forms X)) (hl : fs[X.less]? = some (F_less X)) (k : Nat) {N : List Nat} {n : Int} {v : Dv} (h : Hc) (h8 : Nat.ble N.length 8 = true) (hs : ascB N = true) (e : nthV N n = v) :
    callF fs gl (k + 10) X.nth_form [.str N, .int n] h = .ok v h := by
  have l8 := Nat.le_of_ble_eq_true h8
  have nd : N.Nodup := (ascB_ok hs).imp fun h => by omega
  rw [← e]
  cases n with
  | negSucc n => exact nth_out_ok hf hm (k + 8) N _ h l8 (.inl (by omega))
  | ofNat n =>
    cases q : Nat.ble (cnt N.length) n with
    | true =>
      simp only [nthV, q]
      exact nth_out_ok hf hm (k + 8) N _ h l8 (.inr (by have := Nat.le_of_ble_eq_true q; simp only [Int.ofNat_eq_natCast]; omega))
    | false =>
      simp only [nthV, q]
      have := nth_form_ok (gl := gl) hf hm hl N.length (k + 8 - N.length) N n h rfl l8 nd (by
        rcases Nat.lt_or_ge n (cnt N.length) with z | z
        · exact z
        · rw [Nat.ble_eq_true_of_le z] at q; cases q)
      rwa [show k + 8 - N.length + N.length + 2 = k + 10 by omega] at this
theorem OF.by {f : Fm} (h : ffB f = true) : OF (signs (planB f)) f ∧ Pl (signs (planB f)) := by
  have q := ffB_ok h
  rw [planB_eq]
  exact ⟨⟨q.v, fun c => by rw [signs_mem, mem_planF q.v]⟩, fun c hc => q.pl c ((signs_mem c _).mp hc)⟩
theorem l_names_row (hf : fs[X.l_names]? = some (F_l_names X)) (hp : fs[X.l_plan_of]? = some (F_l_plan_of X)) (k : Nat) {f : Fm} {d : Dv} {N : List Nat} (h : Hc) (e1 : fmD f = d) (hf2 : ffB f = true) (e : signs (planB f) = N) : callF fs gl (k + 11) X.l_names [d] h = .ok (.str N) h := by
  rw [← e1, ← e]
  exact l_names_ok hf hp k _ f h (signs_sorted _) (OF.by hf2).2 (OF.by hf2).1
theorem l_rank_row (hf : fs[X.l_rank]? = some (F_l_rank X)) (hn : fs[X.l_names]? = some (F_l_names X)) (hp : fs[X.l_plan_of]? = some (F_l_plan_of X)) (hc : fs[X.l_count]? = some (F_l_count X)) (k : Nat) {f : Fm} {d : Dv} {n : Nat} (h : Hc) (e1 : fmD f = d) (hf2 : ffB f = true) (e : rankF f (signs (planB f)) = n) : callF fs gl (k + 20) X.l_rank [d] h = .ok (.int (n : Nat)) h := by
  rw [← e1, ← e]
  have q := OF.by hf2
  have n8 : (signs (planB f)).length ≤ 8 := len_nodup (b := ABC) ((signs_sorted _).imp fun h => by omega) q.2
  have := l_rank_ok (gl := gl) hf hn hp hc _ (k + 8 - (signs (planB f)).length) _ f h rfl (signs_sorted _) q.2 q.1
  rwa [show k + 8 - (signs (planB f)).length + (signs (planB f)).length + 12 = k + 20 by omega] at this
end
end Dn

set_option Elab.async false
set_option linter.all false
set_option maxRecDepth 100000
set_option maxHeartbeats 4000000
set_option exponentiation.threshold 3000
/-! tupled, letters_by, letters_in, number_of -/
namespace Dn
open PySem L2
mutual
def toT : Dv → Dv
  | .tup xs => .tup (toTs xs)
  | .lst xs => .tup (toTs xs)
  | .non => .non
  | .bl b => .bl b
  | .int i => .int i
  | .str s => .str s
  | .loc n => .loc n
def toTs : List Dv → List Dv
  | [] => []
  | x :: xs => toT x :: toTs xs
end
theorem toTs_map : ∀ xs : List Dv, toTs xs = xs.map toT
  | [] => rfl
  | x :: xs => by rw [toTs, toTs_map xs]; rfl
theorem toT_fmG : ∀ t f, toT (fmG t f) = fmD f
  | true, .nil => rfl
  | false, .nil => rfl
  | true, .node a x y b => by
    show Dv.tup [toT (fmG true a), chD x, chD y, toT (fmG true b)] = _
    rw [toT_fmG true a, toT_fmG true b]; rfl
  | false, .node a x y b => by
    show Dv.tup [toT (fmG false a), chD x, chD y, toT (fmG false b)] = _
    rw [toT_fmG false a, toT_fmG false b]; rfl
theorem wf_fmG : ∀ t f, wf (fmG t f) = true
  | true, .nil => rfl
  | false, .nil => rfl
  | true, .node a x y b => by
    show (Nat.ble 4 SZ && (wf (fmG true a) && (true && (true && (wf (fmG true b) && true))))) = true
    rw [wf_fmG true a, wf_fmG true b]; rfl
  | false, .node a x y b => by
    show (Nat.ble 4 SZ && (wf (fmG false a) && (true && (true && (wf (fmG false b) && true))))) = true
    rw [wf_fmG false a, wf_fmG false b]; rfl
theorem dp_fmG : ∀ t f, dp (fmG t f) = dpF f + 1
  | true, .nil => rfl
  | false, .nil => rfl
  | true, .node a x y b => by
    show max (dp (fmG true a)) (max 0 (max 0 (max (dp (fmG true b)) 0))) + 1 = _
    rw [dp_fmG true a, dp_fmG true b, dpF]; omega
  | false, .node a x y b => by
    show max (dp (fmG false a)) (max 0 (max 0 (max (dp (fmG false b)) 0))) + 1 = _
    rw [dp_fmG false a, dp_fmG false b, dpF]; omega
section
variable {fs : List MFn} {gl : List Dv} {X : Ix}
theorem tupled_ok (hf : fs[X.tupled]? = some (F_tupled X)) : ∀ (n k : Nat) (d : Dv) (h : Hc), dp d ≤ n → wf d = true → callF fs gl (k + n + 1) X.tupled [d] h = .ok (toT d) h := by
  intro n
  induction n with
  | zero =>
    intro k d h hd hw
    rw [callF_in hf rfl]
    have tl := fun v => @trim_len h.length v h rfl
    cases d with
    | loc m => cases hw
    | tup xs => simp [dp] at hd
    | lst xs => simp [dp] at hd
    | _ =>
      simp only [F_tupled, B_tupled, startD, List.map_cons, List.map_nil, List.replicate, List.length_cons, List.length_nil, Nat.reduceAdd, Nat.reduceSub, List.cons_append, List.nil_append]
      simp -implicitDefEqProofs only [exs_cons, seqF, exs_nil, ex_asg, ex_par, ex_seti, ex_aug, ex_expr, ex_ret, ex_retn, ex_ite, ex_forr, ex_whil, ex_pass, ex_brk, ex_cont, ev_var, ev_cst, ev_glb, ev_bin, ev_cmp, ev_chain, ev_isn, ev_neg, ev_not, ev_bop, ev_ite, ev_tup, ev_lst, ev_new, ev_idx, ev_sl, ev_rev, ev_bi, ev_bi1, ev_mt, ev_call, ev_comp, ev_frz, evs_nil, evs_cons, evB_one, evB_cons, evO_none, evO_some, optF_int, evC_none, evC_some, evI_seq, evI_range1, evI_range2, evI_enum, evI_zip, rngF_int, rngF2_int, enuF_str, enuF_lst, permD, List.getElem?_cons_zero, List.getElem?_cons_succ, List.cons_append, List.nil_append, List.append_nil, List.set_cons_zero, List.set_cons_succ, Res.bind_ok, Res.calm_ok, tg_name, tg_tup1, tg_tup2, tg_tup3, tg_tup4, compF_ap, bodyF_ap, wipeD, List.length_cons, List.length_nil, List.zip_cons_cons, List.zip_nil_right, List.foldl_cons, List.foldl_nil, if_true, if_false, Bool.false_eq_true, Bool.true_eq_false, truth_bl, truth_str, truth_int, truth_lst, truth_tup, truth_non, Bool.not_true, Bool.not_false, beq_self_eq_true, Nat.zero_add, Nat.reduceAdd, Nat.reduceSub, SZ0, SZ1, SZ2, SZ3, SZ4, SZ5, SZ6, SZ7, SZ8, bin_add, bin_sub, cmp_lt, cmp_le, cmp_gt, cmp_ge, cmp_eqi, cmp_nei, cmp_eqs, cmp_nes, cmp_eqb, cmp_neb, cmp_inns, cmp_nins, bi_int, bi_intb, bi_abs, bi_lens, bi_lent, bi_lenl, seqD_str, seqD_tup, seqD_lst, rev_str, neg_int, endR, beq_tt, beq_ff, beq_tf, beq_ft, Bool.and_true, Bool.and_false, Bool.true_and, Bool.false_and, Bool.or_true, Bool.or_false, Bool.true_or, Bool.false_or, bi_isi2 (isTy_str _ _) (isTy_str _ _), bi_isi2 (isTy_int _ _) (isTy_int _ _), bi_isi2 (isTy_bl _ _) (isTy_bl _ _), bi_isi2 (isTy_non _) (isTy_non _), reduceCtorEq, decide_false, decide_true, or_false, or_true, tl, toT]
  | succ n ih =>
    intro k d h hd hw
    rw [callF_in hf rfl]
    have tl := fun v => @trim_len h.length v h rfl
    have list : ∀ xs : List Dv, (∀ x ∈ xs, wf x = true) → (∀ x ∈ xs, dp x ≤ n) → compL (compF (callF fs gl (k + (n + 1))) gl (.name 1) [1] .none (.call X.tupled (.cons (.var 1) .nil) .nil [0]) [some d, none]) xs h = .ok (toTs xs) h := fun xs h2 h3 => by
      have := comp_map (f := compF (callF fs gl (k + (n + 1))) gl (.name 1) [1] .none (.call X.tupled (.cons (.var 1) .nil) .nil [0]) [some d, none]) (h := h) id toT xs fun x hx => by
        have e := ih k x h (h3 x hx) (h2 x hx)
        have ek : k + (n + 1) = k + n + 1 := by omega
        simp -implicitDefEqProofs only [exs_cons, seqF, exs_nil, ex_asg, ex_par, ex_seti, ex_aug, ex_expr, ex_ret, ex_retn, ex_ite, ex_forr, ex_whil, ex_pass, ex_brk, ex_cont, ev_var, ev_cst, ev_glb, ev_bin, ev_cmp, ev_chain, ev_isn, ev_neg, ev_not, ev_bop, ev_ite, ev_tup, ev_lst, ev_new, ev_idx, ev_sl, ev_rev, ev_bi, ev_bi1, ev_mt, ev_call, ev_comp, ev_frz, evs_nil, evs_cons, evB_one, evB_cons, evO_none, evO_some, optF_int, evC_none, evC_some, evI_seq, evI_range1, evI_range2, evI_enum, evI_zip, rngF_int, rngF2_int, enuF_str, enuF_lst, permD, List.getElem?_cons_zero, List.getElem?_cons_succ, List.cons_append, List.nil_append, List.append_nil, List.set_cons_zero, List.set_cons_succ, Res.bind_ok, Res.calm_ok, tg_name, tg_tup1, tg_tup2, tg_tup3, tg_tup4, compF_ap, bodyF_ap, wipeD, List.length_cons, List.length_nil, List.zip_cons_cons, List.zip_nil_right, List.foldl_cons, List.foldl_nil, if_true, if_false, Bool.false_eq_true, Bool.true_eq_false, truth_bl, truth_str, truth_int, truth_lst, truth_tup, truth_non, Bool.not_true, Bool.not_false, beq_self_eq_true, Nat.zero_add, Nat.reduceAdd, Nat.reduceSub, SZ0, SZ1, SZ2, SZ3, SZ4, SZ5, SZ6, SZ7, SZ8, bin_add, bin_sub, cmp_lt, cmp_le, cmp_gt, cmp_ge, cmp_eqi, cmp_nei, cmp_eqs, cmp_nes, cmp_eqb, cmp_neb, cmp_inns, cmp_nins, bi_int, bi_intb, bi_abs, bi_lens, bi_lent, bi_lenl, seqD_str, seqD_tup, seqD_lst, rev_str, neg_int, endR, beq_tt, beq_ff, beq_tf, beq_ft, Bool.and_true, Bool.and_false, Bool.true_and, Bool.false_and, Bool.or_true, Bool.or_false, Bool.true_or, Bool.false_or, id, ek, e]
      rwa [List.map_id, ← toTs_map] at this
    cases d with
    | loc m => cases hw
    | tup xs =>
      simp only [wf, Bool.and_eq_true] at hw
      simp only [dp] at hd
      have e := list xs (wfs_mem hw.2) (dps_mem (by omega))
      have sz : SZok (toTs xs).length = true := by rw [toTs_map, List.length_map]; exact hw.1
      simp only [F_tupled, B_tupled, startD, List.map_cons, List.map_nil, List.replicate, List.length_cons, List.length_nil, Nat.reduceAdd, Nat.reduceSub, List.cons_append, List.nil_append]
      simp -implicitDefEqProofs only [exs_cons, seqF, exs_nil, ex_asg, ex_par, ex_seti, ex_aug, ex_expr, ex_ret, ex_retn, ex_ite, ex_forr, ex_whil, ex_pass, ex_brk, ex_cont, ev_var, ev_cst, ev_glb, ev_bin, ev_cmp, ev_chain, ev_isn, ev_neg, ev_not, ev_bop, ev_ite, ev_tup, ev_lst, ev_new, ev_idx, ev_sl, ev_rev, ev_bi, ev_bi1, ev_mt, ev_call, ev_comp, ev_frz, evs_nil, evs_cons, evB_one, evB_cons, evO_none, evO_some, optF_int, evC_none, evC_some, evI_seq, evI_range1, evI_range2, evI_enum, evI_zip, rngF_int, rngF2_int, enuF_str, enuF_lst, permD, List.getElem?_cons_zero, List.getElem?_cons_succ, List.cons_append, List.nil_append, List.append_nil, List.set_cons_zero, List.set_cons_succ, Res.bind_ok, Res.calm_ok, tg_name, tg_tup1, tg_tup2, tg_tup3, tg_tup4, compF_ap, bodyF_ap, wipeD, List.length_cons, List.length_nil, List.zip_cons_cons, List.zip_nil_right, List.foldl_cons, List.foldl_nil, if_true, if_false, Bool.false_eq_true, Bool.true_eq_false, truth_bl, truth_str, truth_int, truth_lst, truth_tup, truth_non, Bool.not_true, Bool.not_false, beq_self_eq_true, Nat.zero_add, Nat.reduceAdd, Nat.reduceSub, SZ0, SZ1, SZ2, SZ3, SZ4, SZ5, SZ6, SZ7, SZ8, bin_add, bin_sub, cmp_lt, cmp_le, cmp_gt, cmp_ge, cmp_eqi, cmp_nei, cmp_eqs, cmp_nes, cmp_eqb, cmp_neb, cmp_inns, cmp_nins, bi_int, bi_intb, bi_abs, bi_lens, bi_lent, bi_lenl, seqD_str, seqD_tup, seqD_lst, rev_str, neg_int, endR, beq_tt, beq_ff, beq_tf, beq_ft, Bool.and_true, Bool.and_false, Bool.true_and, Bool.false_and, Bool.or_true, Bool.or_false, Bool.true_or, Bool.false_or, bi_isi2 (isTy_tup _ _) (isTy_tup _ _), reduceCtorEq, decide_false, decide_true, or_false, or_true, e, sz, tuple_lst, tl, toT]
    | lst xs =>
      simp only [wf, Bool.and_eq_true] at hw
      simp only [dp] at hd
      have e := list xs (wfs_mem hw.2) (dps_mem (by omega))
      have sz : SZok (toTs xs).length = true := by rw [toTs_map, List.length_map]; exact hw.1
      simp only [F_tupled, B_tupled, startD, List.map_cons, List.map_nil, List.replicate, List.length_cons, List.length_nil, Nat.reduceAdd, Nat.reduceSub, List.cons_append, List.nil_append]
      simp -implicitDefEqProofs only [exs_cons, seqF, exs_nil, ex_asg, ex_par, ex_seti, ex_aug, ex_expr, ex_ret, ex_retn, ex_ite, ex_forr, ex_whil, ex_pass, ex_brk, ex_cont, ev_var, ev_cst, ev_glb, ev_bin, ev_cmp, ev_chain, ev_isn, ev_neg, ev_not, ev_bop, ev_ite, ev_tup, ev_lst, ev_new, ev_idx, ev_sl, ev_rev, ev_bi, ev_bi1, ev_mt, ev_call, ev_comp, ev_frz, evs_nil, evs_cons, evB_one, evB_cons, evO_none, evO_some, optF_int, evC_none, evC_some, evI_seq, evI_range1, evI_range2, evI_enum, evI_zip, rngF_int, rngF2_int, enuF_str, enuF_lst, permD, List.getElem?_cons_zero, List.getElem?_cons_succ, List.cons_append, List.nil_append, List.append_nil, List.set_cons_zero, List.set_cons_succ, Res.bind_ok, Res.calm_ok, tg_name, tg_tup1, tg_tup2, tg_tup3, tg_tup4, compF_ap, bodyF_ap, wipeD, List.length_cons, List.length_nil, List.zip_cons_cons, List.zip_nil_right, List.foldl_cons, List.foldl_nil, if_true, if_false, Bool.false_eq_true, Bool.true_eq_false, truth_bl, truth_str, truth_int, truth_lst, truth_tup, truth_non, Bool.not_true, Bool.not_false, beq_self_eq_true, Nat.zero_add, Nat.reduceAdd, Nat.reduceSub, SZ0, SZ1, SZ2, SZ3, SZ4, SZ5, SZ6, SZ7, SZ8, bin_add, bin_sub, cmp_lt, cmp_le, cmp_gt, cmp_ge, cmp_eqi, cmp_nei, cmp_eqs, cmp_nes, cmp_eqb, cmp_neb, cmp_inns, cmp_nins, bi_int, bi_intb, bi_abs, bi_lens, bi_lent, bi_lenl, seqD_str, seqD_tup, seqD_lst, rev_str, neg_int, endR, beq_tt, beq_ff, beq_tf, beq_ft, Bool.and_true, Bool.and_false, Bool.true_and, Bool.false_and, Bool.or_true, Bool.or_false, Bool.true_or, Bool.false_or, bi_isi2 (isTy_lst _ _) (isTy_lst _ _), reduceCtorEq, decide_false, decide_true, or_false, or_true, e, sz, tuple_lst, tl, toT]
    | _ =>
      simp only [F_tupled, B_tupled, startD, List.map_cons, List.map_nil, List.replicate, List.length_cons, List.length_nil, Nat.reduceAdd, Nat.reduceSub, List.cons_append, List.nil_append]
      simp -implicitDefEqProofs only [exs_cons, seqF, exs_nil, ex_asg, ex_par, ex_seti, ex_aug, ex_expr, ex_ret, ex_retn, ex_ite, ex_forr, ex_whil, ex_pass, ex_brk, ex_cont, ev_var, ev_cst, ev_glb, ev_bin, ev_cmp, ev_chain, ev_isn, ev_neg, ev_not, ev_bop, ev_ite, ev_tup, ev_lst, ev_new, ev_idx, ev_sl, ev_rev, ev_bi, ev_bi1, ev_mt, ev_call, ev_comp, ev_frz, evs_nil, evs_cons, evB_one, evB_cons, evO_none, evO_some, optF_int, evC_none, evC_some, evI_seq, evI_range1, evI_range2, evI_enum, evI_zip, rngF_int, rngF2_int, enuF_str, enuF_lst, permD, List.getElem?_cons_zero, List.getElem?_cons_succ, List.cons_append, List.nil_append, List.append_nil, List.set_cons_zero, List.set_cons_succ, Res.bind_ok, Res.calm_ok, tg_name, tg_tup1, tg_tup2, tg_tup3, tg_tup4, compF_ap, bodyF_ap, wipeD, List.length_cons, List.length_nil, List.zip_cons_cons, List.zip_nil_right, List.foldl_cons, List.foldl_nil, if_true, if_false, Bool.false_eq_true, Bool.true_eq_false, truth_bl, truth_str, truth_int, truth_lst, truth_tup, truth_non, Bool.not_true, Bool.not_false, beq_self_eq_true, Nat.zero_add, Nat.reduceAdd, Nat.reduceSub, SZ0, SZ1, SZ2, SZ3, SZ4, SZ5, SZ6, SZ7, SZ8, bin_add, bin_sub, cmp_lt, cmp_le, cmp_gt, cmp_ge, cmp_eqi, cmp_nei, cmp_eqs, cmp_nes, cmp_eqb, cmp_neb, cmp_inns, cmp_nins, bi_int, bi_intb, bi_abs, bi_lens, bi_lent, bi_lenl, seqD_str, seqD_tup, seqD_lst, rev_str, neg_int, endR, beq_tt, beq_ff, beq_tf, beq_ft, Bool.and_true, Bool.and_false, Bool.true_and, Bool.false_and, Bool.or_true, Bool.or_false, Bool.true_or, Bool.false_or, bi_isi2 (isTy_str _ _) (isTy_str _ _), bi_isi2 (isTy_int _ _) (isTy_int _ _), bi_isi2 (isTy_bl _ _) (isTy_bl _ _), bi_isi2 (isTy_non _) (isTy_non _), reduceCtorEq, decide_false, decide_true, or_false, or_true, tl, toT]
theorem tupled_fm (hf : fs[X.tupled]? = some (F_tupled X)) (t : Bool) (k : Nat) (f : Fm) (h : Hc) (hd : dpF f ≤ 8) : callF fs gl (k + 10) X.tupled [fmG t f] h = .ok (fmD f) h := by
  have := tupled_ok (gl := gl) hf 9 k (fmG t f) h (by rw [dp_fmG]; omega) (wf_fmG t f)
  rwa [toT_fmG] at this
structure HasLetters (fs : List MFn) (gl : List Dv) (X : Ix) : Prop where
  t : fs[X.tupled]? = some (F_tupled X)
  o : fs[X.letters_of]? = some (F_letters_of X)
  b : fs[X.letters_by]? = some (F_letters_by X)
  i : fs[X.letters_in]? = some (F_letters_in X)
  a : gl[X.gALPHABET]? = some (.str ABC)
  f : gl[X.gFOUR]? = some (.int 4)
theorem letters_by_ok (H : HasLetters fs gl X) : ∀ (m k : Nat) (N : List Nat) (f : Fm) (h : Hc), N.length = m → N.Pairwise (· < ·) → Pl N → OF N f → callF fs gl (k + m + 2) X.letters_by [fmD f] h = .ok (.str N) h := by
  intro m
  induction m with
  | zero =>
    intro k N f h hm hs pn of
    have : N = [] := List.length_eq_zero_iff.mp hm
    subst this
    rw [of.of_nil, callF_in H.b rfl]
    have c := cmp_eq_self (h := h) (d := .tup []) (n := 1) rfl (by omega)
    have n0 : cmpD .nin (.int ((0 : Nat) : Int)) (.tup [.int 0, .int 4]) h = .ok (.bl false) h := rfl
    have tl := @trim_len h.length (.str []) h rfl
    simp only [F_letters_by, B_letters_by, fmD, startD, List.map_cons, List.map_nil, List.replicate, List.length_cons, List.length_nil, Nat.reduceAdd, Nat.reduceSub, List.cons_append, List.nil_append]
    simp -implicitDefEqProofs only [exs_cons, seqF, exs_nil, ex_asg, ex_par, ex_seti, ex_aug, ex_expr, ex_ret, ex_retn, ex_ite, ex_forr, ex_whil, ex_pass, ex_brk, ex_cont, ev_var, ev_cst, ev_glb, ev_bin, ev_cmp, ev_chain, ev_isn, ev_neg, ev_not, ev_bop, ev_ite, ev_tup, ev_lst, ev_new, ev_idx, ev_sl, ev_rev, ev_bi, ev_bi1, ev_mt, ev_call, ev_comp, ev_frz, evs_nil, evs_cons, evB_one, evB_cons, evO_none, evO_some, optF_int, evC_none, evC_some, evI_seq, evI_range1, evI_range2, evI_enum, evI_zip, rngF_int, rngF2_int, enuF_str, enuF_lst, permD, List.getElem?_cons_zero, List.getElem?_cons_succ, List.cons_append, List.nil_append, List.append_nil, List.set_cons_zero, List.set_cons_succ, Res.bind_ok, Res.calm_ok, tg_name, tg_tup1, tg_tup2, tg_tup3, tg_tup4, compF_ap, bodyF_ap, wipeD, List.length_cons, List.length_nil, List.zip_cons_cons, List.zip_nil_right, List.foldl_cons, List.foldl_nil, if_true, if_false, Bool.false_eq_true, Bool.true_eq_false, truth_bl, truth_str, truth_int, truth_lst, truth_tup, truth_non, Bool.not_true, Bool.not_false, beq_self_eq_true, Nat.zero_add, Nat.reduceAdd, Nat.reduceSub, SZ0, SZ1, SZ2, SZ3, SZ4, SZ5, SZ6, SZ7, SZ8, bin_add, bin_sub, cmp_lt, cmp_le, cmp_gt, cmp_ge, cmp_eqi, cmp_nei, cmp_eqs, cmp_nes, cmp_eqb, cmp_neb, cmp_inns, cmp_nins, bi_int, bi_intb, bi_abs, bi_lens, bi_lent, bi_lenl, seqD_str, seqD_tup, seqD_lst, rev_str, neg_int, endR, beq_tt, beq_ff, beq_tf, beq_ft, Bool.and_true, Bool.and_false, Bool.true_and, Bool.false_and, Bool.or_true, Bool.or_false, Bool.true_or, Bool.false_or, bi_isi (isTy_tup _ _), decide_true, H.f, n0, c, tl]
  | succ m ih =>
    intro k N f h hm hs pn of
    cases f with
    | nil => rw [of.ne] at hm; simp at hm
    | node a x y b =>
      have nd : N.Nodup := hs.imp fun h => by omega
      have n8 : N.length ≤ 8 := len_nodup (b := ABC) nd pn
      obtain ⟨hx, hy, ha, hb⟩ := of.parts
      have lx := lessL_len nd hx
      have ly := lessL_len nd hy
      have pa : Pl (lessL N x) := fun c hc => pn c (mem_lessL.mp hc).1
      have pb : Pl (lessL N y) := fun c hc => pn c (mem_lessL.mp hc).1
      have r1 := ih k (lessL N x) a h (by omega) (lessL_sorted hs x) pa ha
      have r2 := ih k (lessL N y) b h (by omega) (lessL_sorted hs y) pb hb
      have sx : signs (lessL N x ++ [x]) = N := sorted_ext (signs_sorted _) hs fun c => by
        rw [signs_mem, List.mem_append, mem_lessL, List.mem_singleton]
        by_cases e : c = x
        · subst e; simp [hx]
        · simp [e]
      have sy : signs (lessL N y ++ [y]) = N := sorted_ext (signs_sorted _) hs fun c => by
        rw [signs_mem, List.mem_append, mem_lessL, List.mem_singleton]
        by_cases e : c = y
        · subst e; simp [hy]
        · simp [e]
      have o1 := letters_ok (gl := gl) H.o (k + m + 1) (lessL N x ++ [x]) h (by unfold nl; rw [sx]; omega)
      have o2 := letters_ok (gl := gl) H.o (k + m + 1) (lessL N y ++ [y]) h (by unfold nl; rw [sy]; omega)
      rw [sx] at o1
      rw [sy] at o2
      have a1 := adds_ok (h := h) (lessL N x) [x] (by simp; unfold SZ; omega)
      have a2 := adds_ok (h := h) (lessL N y) [y] (by simp; unfold SZ; omega)
      have ek : k + (m + 1) + 2 = k + m + 2 + 1 := by omega
      rw [ek, callF_in H.b rfl]
      have c0 : cmpD .eq (.tup [fmD a, chD x, chD y, fmD b]) (.tup []) h = .ok (.bl false) h := cmp_fmD (h := h) (f := .node a x y b) (g := .nil) (by have := (of.ff pn).dp; omega) (by simp [dpF])
      have n4 : cmpD .nin (.int ((4 : Nat) : Int)) (.tup [.int 0, .int 4]) h = .ok (.bl false) h := rfl
      have l1 : (((1 : Nat) : Int) == 1) = true := rfl
      have dx : decide (x ∈ ABC) = true := decide_eq_true (pn x hx)
      have dy : decide (y ∈ ABC) = true := decide_eq_true (pn y hy)
      have ex : decide (x ∈ lessL N x) = false := decide_eq_false fun z => (mem_lessL.mp z).2 rfl
      have ey : decide (y ∈ lessL N y) = false := decide_eq_false fun z => (mem_lessL.mp z).2 rfl
      have al : biD .all [.lst [.bl true, .bl true]] h = .ok (.bl true) h := rfl
      have tl := @trim_len h.length (.str N) h rfl
      simp only [F_letters_by, B_letters_by, fmD, startD, List.map_cons, List.map_nil, List.replicate, List.length_cons, List.length_nil, Nat.reduceAdd, Nat.reduceSub, List.cons_append, List.nil_append]
      simp -implicitDefEqProofs only [exs_cons, seqF, exs_nil, ex_asg, ex_par, ex_seti, ex_aug, ex_expr, ex_ret, ex_retn, ex_ite, ex_forr, ex_whil, ex_pass, ex_brk, ex_cont, ev_var, ev_cst, ev_glb, ev_bin, ev_cmp, ev_chain, ev_isn, ev_neg, ev_not, ev_bop, ev_ite, ev_tup, ev_lst, ev_new, ev_idx, ev_sl, ev_rev, ev_bi, ev_bi1, ev_mt, ev_call, ev_comp, ev_frz, evs_nil, evs_cons, evB_one, evB_cons, evO_none, evO_some, optF_int, evC_none, evC_some, evI_seq, evI_range1, evI_range2, evI_enum, evI_zip, rngF_int, rngF2_int, enuF_str, enuF_lst, permD, List.getElem?_cons_zero, List.getElem?_cons_succ, List.cons_append, List.nil_append, List.append_nil, List.set_cons_zero, List.set_cons_succ, Res.bind_ok, Res.calm_ok, tg_name, tg_tup1, tg_tup2, tg_tup3, tg_tup4, compF_ap, bodyF_ap, wipeD, List.length_cons, List.length_nil, List.zip_cons_cons, List.zip_nil_right, List.foldl_cons, List.foldl_nil, if_true, if_false, Bool.false_eq_true, Bool.true_eq_false, truth_bl, truth_str, truth_int, truth_lst, truth_tup, truth_non, Bool.not_true, Bool.not_false, beq_self_eq_true, Nat.zero_add, Nat.reduceAdd, Nat.reduceSub, SZ0, SZ1, SZ2, SZ3, SZ4, SZ5, SZ6, SZ7, SZ8, bin_add, bin_sub, cmp_lt, cmp_le, cmp_gt, cmp_ge, cmp_eqi, cmp_nei, cmp_eqs, cmp_nes, cmp_eqb, cmp_neb, cmp_inns, cmp_nins, bi_int, bi_intb, bi_abs, bi_lens, bi_lent, bi_lenl, seqD_str, seqD_tup, seqD_lst, rev_str, neg_int, endR, beq_tt, beq_ff, beq_tf, beq_ft, Bool.and_true, Bool.and_false, Bool.true_and, Bool.false_and, Bool.or_true, Bool.or_false, Bool.true_or, Bool.false_or, bi_isi (isTy_tup _ _), bi_isi (isTy_str _ _), decide_true, H.f, H.a, n4, c0, idx_q0, idx_q1, idx_q2, idx_q3, compL, l1, sub1, dx, dy, al, r1, r2, ex, ey, a1, a2, o1, o2, tl]
theorem letters_in_ok (H : HasLetters fs gl X) (t : Bool) (k : Nat) (N : List Nat) (f : Fm) (h : Hc) (hs : N.Pairwise (· < ·)) (pn : Pl N) (of : OF N f) : callF fs gl (k + 11) X.letters_in [fmG t f] h = .ok (.str N) h := by
  have nd : N.Nodup := hs.imp fun h => by omega
  have n8 : N.length ≤ 8 := len_nodup (b := ABC) nd pn
  have e1 := tupled_fm (gl := gl) H.t t k f h (of.ff pn).dp
  have e2 := letters_by_ok H N.length (k + 8 - N.length) N f h rfl hs pn of
  rw [show k + 8 - N.length + N.length + 2 = k + 10 by omega] at e2
  rw [callF_in H.i rfl]
  have tl := @trim_len h.length (.str N) h rfl
  simp only [F_letters_in, B_letters_in, startD, List.map_cons, List.map_nil, List.replicate, List.length_cons, List.length_nil, Nat.reduceAdd, Nat.reduceSub, List.cons_append, List.nil_append]
  simp -implicitDefEqProofs only [exs_cons, seqF, exs_nil, ex_asg, ex_par, ex_seti, ex_aug, ex_expr, ex_ret, ex_retn, ex_ite, ex_forr, ex_whil, ex_pass, ex_brk, ex_cont, ev_var, ev_cst, ev_glb, ev_bin, ev_cmp, ev_chain, ev_isn, ev_neg, ev_not, ev_bop, ev_ite, ev_tup, ev_lst, ev_new, ev_idx, ev_sl, ev_rev, ev_bi, ev_bi1, ev_mt, ev_call, ev_comp, ev_frz, evs_nil, evs_cons, evB_one, evB_cons, evO_none, evO_some, optF_int, evC_none, evC_some, evI_seq, evI_range1, evI_range2, evI_enum, evI_zip, rngF_int, rngF2_int, enuF_str, enuF_lst, permD, List.getElem?_cons_zero, List.getElem?_cons_succ, List.cons_append, List.nil_append, List.append_nil, List.set_cons_zero, List.set_cons_succ, Res.bind_ok, Res.calm_ok, tg_name, tg_tup1, tg_tup2, tg_tup3, tg_tup4, compF_ap, bodyF_ap, wipeD, List.length_cons, List.length_nil, List.zip_cons_cons, List.zip_nil_right, List.foldl_cons, List.foldl_nil, if_true, if_false, Bool.false_eq_true, Bool.true_eq_false, truth_bl, truth_str, truth_int, truth_lst, truth_tup, truth_non, Bool.not_true, Bool.not_false, beq_self_eq_true, Nat.zero_add, Nat.reduceAdd, Nat.reduceSub, SZ0, SZ1, SZ2, SZ3, SZ4, SZ5, SZ6, SZ7, SZ8, bin_add, bin_sub, cmp_lt, cmp_le, cmp_gt, cmp_ge, cmp_eqi, cmp_nei, cmp_eqs, cmp_nes, cmp_eqb, cmp_neb, cmp_inns, cmp_nins, bi_int, bi_intb, bi_abs, bi_lens, bi_lent, bi_lenl, seqD_str, seqD_tup, seqD_lst, rev_str, neg_int, endR, beq_tt, beq_ff, beq_tf, beq_ft, Bool.and_true, Bool.and_false, Bool.true_and, Bool.false_and, Bool.or_true, Bool.or_false, Bool.true_or, Bool.false_or, e1, e2, tl]
theorem number_of_ok (H : HasLetters fs gl X) (hf : fs[X.number_of]? = some (F_number_of X)) (hm : fs[X.how_many_forms]? = some (F_how_many_forms X)) :
    ∀ (m k : Nat) (t : Bool) (N : List Nat) (f : Fm) (h : Hc), N.length = m → N.Pairwise (· < ·) → Pl N → OF N f → callF fs gl (k + m + 12) X.number_of [fmG t f] h = .ok (.int (rankF f N : Nat)) h := by
  intro m
  induction m with
  | zero =>
    intro k t N f h hm0 hs pn of
    have : N = [] := List.length_eq_zero_iff.mp hm0
    subst this
    have e0 := tupled_fm (gl := gl) H.t t (k + 1) f h (of.ff pn).dp
    have := of.of_nil
    subst this
    rw [callF_in hf rfl]
    have c := cmp_eq_self (h := h) (d := .tup []) (n := 1) rfl (by omega)
    have tl := @trim_len h.length (.int ((0 : Nat) : Int)) h rfl
    simp only [fmD] at e0
    simp only [F_number_of, B_number_of, rankF, startD, List.map_cons, List.map_nil, List.replicate, List.length_cons, List.length_nil, Nat.reduceAdd, Nat.reduceSub, List.cons_append, List.nil_append]
    simp -implicitDefEqProofs only [exs_cons, seqF, exs_nil, ex_asg, ex_par, ex_seti, ex_aug, ex_expr, ex_ret, ex_retn, ex_ite, ex_forr, ex_whil, ex_pass, ex_brk, ex_cont, ev_var, ev_cst, ev_glb, ev_bin, ev_cmp, ev_chain, ev_isn, ev_neg, ev_not, ev_bop, ev_ite, ev_tup, ev_lst, ev_new, ev_idx, ev_sl, ev_rev, ev_bi, ev_bi1, ev_mt, ev_call, ev_comp, ev_frz, evs_nil, evs_cons, evB_one, evB_cons, evO_none, evO_some, optF_int, evC_none, evC_some, evI_seq, evI_range1, evI_range2, evI_enum, evI_zip, rngF_int, rngF2_int, enuF_str, enuF_lst, permD, List.getElem?_cons_zero, List.getElem?_cons_succ, List.cons_append, List.nil_append, List.append_nil, List.set_cons_zero, List.set_cons_succ, Res.bind_ok, Res.calm_ok, tg_name, tg_tup1, tg_tup2, tg_tup3, tg_tup4, compF_ap, bodyF_ap, wipeD, List.length_cons, List.length_nil, List.zip_cons_cons, List.zip_nil_right, List.foldl_cons, List.foldl_nil, if_true, if_false, Bool.false_eq_true, Bool.true_eq_false, truth_bl, truth_str, truth_int, truth_lst, truth_tup, truth_non, Bool.not_true, Bool.not_false, beq_self_eq_true, Nat.zero_add, Nat.reduceAdd, Nat.reduceSub, SZ0, SZ1, SZ2, SZ3, SZ4, SZ5, SZ6, SZ7, SZ8, bin_add, bin_sub, cmp_lt, cmp_le, cmp_gt, cmp_ge, cmp_eqi, cmp_nei, cmp_eqs, cmp_nes, cmp_eqb, cmp_neb, cmp_inns, cmp_nins, bi_int, bi_intb, bi_abs, bi_lens, bi_lent, bi_lenl, seqD_str, seqD_tup, seqD_lst, rev_str, neg_int, endR, beq_tt, beq_ff, beq_tf, beq_ft, Bool.and_true, Bool.and_false, Bool.true_and, Bool.false_and, Bool.or_true, Bool.or_false, Bool.true_or, Bool.false_or, e0, c, tl]
    exact tl
  | succ m ih =>
    intro k t N f h hm0 hs pn of
    have e0 := tupled_fm (gl := gl) H.t t (k + m + 2) f h (of.ff pn).dp
    have e1 := letters_in_ok H true (k + m + 1) N f h hs pn of
    rw [fmG_true] at e1
    rw [show k + m + 2 + 10 = k + m + 12 by omega] at e0
    rw [show k + m + 1 + 11 = k + m + 12 by omega] at e1
    generalize fmG t f = d at *
    cases f with
    | nil => rw [of.ne] at hm0; simp at hm0
    | node a x y b =>
      have nd : N.Nodup := hs.imp fun h => by omega
      have n8 : N.length ≤ 8 := len_nodup (b := ABC) nd pn
      obtain ⟨hx, hy, ha, hb⟩ := of.parts
      have lx := lessL_len nd hx
      have ly := lessL_len nd hy
      have pa : Pl (lessL N x) := fun c hc => pn c (mem_lessL.mp hc).1
      have pb : Pl (lessL N y) := fun c hc => pn c (mem_lessL.mp hc).1
      have r1 := ih k true (lessL N x) a h (by omega) (lessL_sorted hs x) pa ha
      have r2 := ih k true (lessL N y) b h (by omega) (lessL_sorted hs y) pb hb
      rw [fmG_true] at r1 r2
      have b1 := (rank_lt m (lessL N x) a (by omega) (lessL_nodup nd x) ha).1
      have b2 := (rank_lt m (lessL N y) b (by omega) (lessL_nodup nd y) hb).1
      have ix : N.idxOf x < m + 1 := hm0 ▸ List.idxOf_lt_length_of_mem hx
      have iy : N.idxOf y < m + 1 := hm0 ▸ List.idxOf_lt_length_of_mem hy
      obtain ⟨d1, d2⟩ := dig_bounds ix b1 iy
      have f8 := cnt_le8 (m := m) (by omega)
      have f9 := cnt_le8 (m := m + 1) (by omega)
      rw [cnt] at f9
      have p4 : (2 : Nat) ^ 400 < 2 ^ 2000 := Nat.pow_lt_pow_right (by decide) (by decide)
      have g8 := Nat.lt_trans f8 p4
      have sm : ∀ a : Nat, a ≤ 8 → a < 2 ^ 2000 := fun a ha => Nat.lt_of_le_of_lt ha (Nat.lt_trans (by decide) p4)
      have m1 := bin_mul (h := h) (mulOk_nat (a := N.idxOf x) (b := cnt m) (sm _ (by omega)) g8)
      have m2 := bin_mul (h := h) (mulOk_nat (a := N.idxOf x * cnt m + rankF a (lessL N x)) (b := m + 1) (Nat.lt_trans d1 (Nat.lt_trans f9 p4)) (sm _ (by omega)))
      have m3 := bin_mul (h := h) (mulOk_nat (a := (N.idxOf x * cnt m + rankF a (lessL N x)) * (m + 1) + N.idxOf y) (b := cnt m) (Nat.lt_trans d2 (Nat.lt_trans f9 p4)) g8)
      have ek : k + (m + 1) + 12 = k + m + 12 + 1 := by omega
      rw [ek, callF_in hf rfl]
      have e2 := many_ok (gl := gl) hm (k + m + 11) m h (by omega)
      have c0 : cmpD .eq (.tup [fmD a, chD x, chD y, fmD b]) (.tup []) h = .ok (.bl false) h := cmp_fmD (h := h) (f := .node a x y b) (g := .nil) (by have := (of.ff pn).dp; omega) (by simp [dpF])
      have z8 : SZok N.length = true := SZok_iff.mpr (by unfold SZ; omega)
      have cm1 : ((m + 1 : Nat) : Int) - 1 = ((m : Nat) : Int) := by omega
      have tm : ∀ (a b : Nat), ((a : Nat) : Int) * ((b : Nat) : Int) = ((a * b : Nat) : Int) := fun a b => (Int.natCast_mul a b).symm
      have ta : ∀ (a b : Nat), ((a : Nat) : Int) + ((b : Nat) : Int) = ((a + b : Nat) : Int) := fun a b => (Int.natCast_add a b).symm
      have tl := @trim_len h.length (.int (rankF (.node a x y b) N : Nat)) h rfl
      simp only [rankF, hm0, Nat.add_sub_cancel] at tl ⊢
      simp only [fmD] at e0 e1
      simp only [F_number_of, B_number_of, startD, List.map_cons, List.map_nil, List.replicate, List.length_cons, List.length_nil, Nat.reduceAdd, Nat.reduceSub, List.cons_append, List.nil_append]
      simp -implicitDefEqProofs only [exs_cons, seqF, exs_nil, ex_asg, ex_par, ex_seti, ex_aug, ex_expr, ex_ret, ex_retn, ex_ite, ex_forr, ex_whil, ex_pass, ex_brk, ex_cont, ev_var, ev_cst, ev_glb, ev_bin, ev_cmp, ev_chain, ev_isn, ev_neg, ev_not, ev_bop, ev_ite, ev_tup, ev_lst, ev_new, ev_idx, ev_sl, ev_rev, ev_bi, ev_bi1, ev_mt, ev_call, ev_comp, ev_frz, evs_nil, evs_cons, evB_one, evB_cons, evO_none, evO_some, optF_int, evC_none, evC_some, evI_seq, evI_range1, evI_range2, evI_enum, evI_zip, rngF_int, rngF2_int, enuF_str, enuF_lst, permD, List.getElem?_cons_zero, List.getElem?_cons_succ, List.cons_append, List.nil_append, List.append_nil, List.set_cons_zero, List.set_cons_succ, Res.bind_ok, Res.calm_ok, tg_name, tg_tup1, tg_tup2, tg_tup3, tg_tup4, compF_ap, bodyF_ap, wipeD, List.length_cons, List.length_nil, List.zip_cons_cons, List.zip_nil_right, List.foldl_cons, List.foldl_nil, if_true, if_false, Bool.false_eq_true, Bool.true_eq_false, truth_bl, truth_str, truth_int, truth_lst, truth_tup, truth_non, Bool.not_true, Bool.not_false, beq_self_eq_true, Nat.zero_add, Nat.reduceAdd, Nat.reduceSub, SZ0, SZ1, SZ2, SZ3, SZ4, SZ5, SZ6, SZ7, SZ8, bin_add, bin_sub, cmp_lt, cmp_le, cmp_gt, cmp_ge, cmp_eqi, cmp_nei, cmp_eqs, cmp_nes, cmp_eqb, cmp_neb, cmp_inns, cmp_nins, bi_int, bi_intb, bi_abs, bi_lens, bi_lent, bi_lenl, seqD_str, seqD_tup, seqD_lst, rev_str, neg_int, endR, beq_tt, beq_ff, beq_tf, beq_ft, Bool.and_true, Bool.and_false, Bool.true_and, Bool.false_and, Bool.or_true, Bool.or_false, Bool.true_or, Bool.false_or, e0, c0, e1, z8, hm0, cm1, e2, mtOk_find, mt_find1, findS_idx hx, findS_idx hy, m1, tm, ta, r1, m2, m3, r2, tl]
theorem number_row (H : HasLetters fs gl X) (hf : fs[X.number_of]? = some (F_number_of X)) (hm : fs[X.how_many_forms]? = some (F_how_many_forms X)) (t : Bool) (k : Nat) {f : Fm} {d : Dv} {n : Nat} (h : Hc) (e1 : fmG t f = d) (hf2 : ffB f = true) (e : rankF f (signs (planB f)) = n) : callF fs gl (k + 20) X.number_of [d] h = .ok (.int (n : Nat)) h := by
  rw [← e1, ← e]
  have q := OF.by hf2
  have n8 : (signs (planB f)).length ≤ 8 := len_nodup (b := ABC) ((signs_sorted _).imp fun h => by omega) q.2
  have := number_of_ok H hf hm _ (k + 8 - (signs (planB f)).length) t _ f h rfl (signs_sorted _) q.2 q.1
  rwa [show k + 8 - (signs (planB f)).length + (signs (planB f)).length + 12 = k + 20 by omega] at this
end
end Dn

set_option Elab.async false
set_option linter.all false
set_option maxRecDepth 100000
set_option maxHeartbeats 0
namespace Lw
open PySem PySem.Spec PyProof.Rows L2 Dn
def top (i : Nat) : Stmt := PySem.Challenge.pw_donetwice_k21_numbers_of_forms.main.body.getD i (.Pass ⟨0, 0, 0, 0⟩)

/-! tupled -/
def b_0 : MSs := (.cons (.ret (.ite (.bi1 (.isi2 .list .tuple) (.var 0)) (.bi .tuple (.cons (.comp (.name 1) [1] (.seq (.var 0)) .none (.call 0 (.cons (.var 1) .nil) .nil [0])) .nil)) (.var 0)))
  .nil)
def f_0 : MFn := ⟨1, 2, b_0⟩
def t_0 : DT := ⟨⟨("tupled", none), "tupled", "tupled", defArgs (top 1), defBody (top 1), defScope (top 1), [], []⟩, ["thing", "own"], ["thing"], f_0⟩
/-! letters_of -/
def b_1 : MSs := (.cons (.ret (.mt .join (.cst (.str [])) (.cons (.bi1 .sset (.var 0)) .nil)))
  .nil)
def f_1 : MFn := ⟨1, 1, b_1⟩
def t_1 : DT := ⟨⟨("letters_of", none), "letters_of", "letters_of", defArgs (top 4), defBody (top 4), defScope (top 4), [], []⟩, ["plan"], ["plan"], f_1⟩
/-! letters_by -/
def b_2 : MSs := (.cons (.ite (.bop false (.cons (.not (.bi1 (.isi .tuple) (.var 0))) (.cons (.cmp .nin (.bi .len (.cons (.var 0) .nil)) (.tup (.cons (.cst (.int 0)) (.cons (.glb 1) .nil)))) .nil))) (.cons (.ret (.cst .non))
  .nil) .nil)
  (.cons (.ite (.cmp .eq (.var 0) (.tup .nil)) (.cons (.ret (.cst (.str [])))
  .nil) .nil)
  (.cons (.ite (.not (.bi .all (.cons (.comp (.name 4) [4] (.seq (.tup (.cons (.idx (.var 0) (.cst (.int 1))) (.cons (.idx (.var 0) (.cst (.int 2))) .nil)))) .none (.bop true (.cons (.bi1 (.isi .str) (.var 4)) (.cons (.cmp .eq (.bi .len (.cons (.var 4) .nil)) (.cst (.int 1))) (.cons (.cmp .inn (.var 4) (.glb 0)) .nil))))) .nil))) (.cons (.ret (.cst .non))
  .nil) .nil)
  (.cons (.par [2, 3] (.cons (.call 2 (.cons (.idx (.var 0) (.cst (.int 0))) .nil) .nil [0]) (.cons (.call 2 (.cons (.idx (.var 0) (.cst (.int 3))) .nil) .nil [0]) .nil)))
  (.cons (.ite (.bop false (.cons (.isn true (.var 2)) (.cons (.isn true (.var 3)) (.cons (.cmp .inn (.idx (.var 0) (.cst (.int 1))) (.var 2)) (.cons (.cmp .inn (.idx (.var 0) (.cst (.int 2))) (.var 3)) .nil))))) (.cons (.ret (.cst .non))
  .nil) .nil)
  (.cons (.asg (.name 1) (.call 1 (.cons (.bin .add (.var 2) (.idx (.var 0) (.cst (.int 1)))) .nil) .nil [0]))
  (.cons (.ret (.ite (.cmp .eq (.var 1) (.call 1 (.cons (.bin .add (.var 3) (.idx (.var 0) (.cst (.int 2)))) .nil) .nil [0])) (.var 1) (.cst .non)))
  .nil)))))))
def f_2 : MFn := ⟨1, 5, b_2⟩
def t_2 : DT := ⟨⟨("letters_by", none), "letters_by", "letters_by", defArgs (top 7), defBody (top 7), defScope (top 7), [], []⟩, ["thing", "found", "ahead", "behind", "own"], ["thing"], f_2⟩
/-! letters_in -/
def b_3 : MSs := (.cons (.ret (.call 2 (.cons (.call 0 (.cons (.var 0) .nil) .nil [0]) .nil) .nil [0]))
  .nil)
def f_3 : MFn := ⟨1, 1, b_3⟩
def t_3 : DT := ⟨⟨("letters_in", none), "letters_in", "letters_in", defArgs (top 8), defBody (top 8), defScope (top 8), [], []⟩, ["form"], ["form"], f_3⟩
/-! how_many_forms -/
def b_4_L1 : MSs := (.cons (.asg (.name 1) (.bin .mul (.bin .mul (.bin .mul (.var 2) (.var 1)) (.var 2)) (.var 1)))
  .nil)
def b_4 : MSs := (.cons (.asg (.name 1) (.cst (.int 1)))
  (.cons (.forr (.name 2) (.range2 (.cst (.int 1)) (.bin .add (.var 0) (.cst (.int 1)))) b_4_L1)
  (.cons (.ret (.var 1))
  .nil)))
def f_4 : MFn := ⟨1, 3, b_4⟩
def t_4 : DT := ⟨⟨("how_many_forms", none), "how_many_forms", "how_many_forms", defArgs (top 10), defBody (top 10), defScope (top 10), [], []⟩, ["many", "found", "own"], ["many"], f_4⟩
/-! number_of -/
def b_5 : MSs := (.cons (.asg (.name 1) (.call 0 (.cons (.var 0) .nil) .nil [0]))
  (.cons (.ite (.cmp .eq (.var 1) (.tup .nil)) (.cons (.ret (.cst (.int 0)))
  .nil) .nil)
  (.cons (.asg (.tup [5, 6, 7, 8]) (.var 1))
  (.cons (.asg (.name 2) (.call 3 (.cons (.var 1) .nil) .nil [0]))
  (.cons (.asg (.name 3) (.call 4 (.cons (.bin .sub (.bi .len (.cons (.var 2) .nil)) (.cst (.int 1))) .nil) .nil [0]))
  (.cons (.asg (.name 4) (.bin .add (.bin .mul (.mt .find (.var 2) (.cons (.var 6) .nil)) (.var 3)) (.call 5 (.cons (.var 5) .nil) .nil [0])))
  (.cons (.ret (.bin .add (.bin .mul (.bin .add (.bin .mul (.var 4) (.bi .len (.cons (.var 2) .nil))) (.mt .find (.var 2) (.cons (.var 7) .nil))) (.var 3)) (.call 5 (.cons (.var 8) .nil) .nil [0])))
  .nil)))))))
def f_5 : MFn := ⟨1, 9, b_5⟩
def t_5 : DT := ⟨⟨("number_of", none), "number_of", "number_of", defArgs (top 11), defBody (top 11), defScope (top 11), [], []⟩, ["form", "own", "letters", "few", "first", "ahead", "came", "gone", "behind"], ["form"], f_5⟩
/-! _law_box -/
def b_6 : MSs := (.cons (.asg (.name 2) (.ite (.cmp .lt (.var 1) (.bi .len (.cons (.var 0) .nil))) (.idx (.var 0) (.var 1)) (.cst (.int 0))))
  (.cons (.ret (.new (.cons (.bin .mul (.bi .abs (.cons (.var 2) .nil)) (.bi .int (.cons (.cmp .ge (.bi .abs (.cons (.var 2) .nil)) (.bin .pow (.cst (.int 10)) (.cst (.int 18)))) .nil))) (.cons (.bin .add (.bin .add (.bin .mod (.bi .int (.cons (.var 2) .nil)) (.cst (.int 2305843009213693951))) (.bin .mul (.cst (.int 39373)) (.var 1))) (.cst (.int 23696))) (.cons (.cst (.int 0)) .nil)))))
  .nil))
def f_6 : MFn := ⟨2, 3, b_6⟩
def t_6 : DT := ⟨⟨("_law_box", none), "_law_box", "_law_box", defArgs (top 13), defBody (top 13), defScope (top 13), [], []⟩, ["_law_script", "_law_k", "_law_cell"], ["_law_script", "_law_k"], f_6⟩
/-! _law_take -/
def b_7 : MSs := (.cons (.ite (.cmp .gt (.idx (.var 0) (.cst (.int 0))) (.cst (.int 0))) (.cons (.asg (.name 5) (.bin .mod (.bi .int (.cons (.idx (.var 0) (.cst (.int 0))) .nil)) (.var 1)))
  (.cons (.seti (.var 0) (.cst (.int 0)) (.bin .fdiv (.idx (.var 0) (.cst (.int 0))) (.var 1)))
  (.cons (.ret (.var 5))
  .nil))) .nil)
  (.cons (.seti (.var 0) (.cst (.int 2)) (.bin .add (.idx (.var 0) (.cst (.int 2))) (.cst (.int 1))))
  (.cons (.asg (.name 2) (.bin .mod (.bi .int (.cons (.bin .mul (.bin .add (.idx (.var 0) (.cst (.int 1))) (.bin .mul (.cst (.int 48271)) (.idx (.var 0) (.cst (.int 2))))) (.bin .add (.cst (.int 39373)) (.idx (.var 0) (.cst (.int 2))))) .nil)) (.cst (.int 2147483647))))
  (.cons (.asg (.name 3) (.bin .add (.bin .mod (.bi .int (.cons (.var 2) .nil)) (.cst (.int 40009))) (.cst (.int 7))))
  (.cons (.asg (.name 4) (.bin .mod (.bi .int (.cons (.bin .mul (.bin .add (.bin .add (.var 2) (.idx (.var 0) (.cst (.int 2)))) (.bin .fdiv (.idx (.var 0) (.cst (.int 1))) (.cst (.int 1000003)))) (.var 3)) .nil)) (.cst (.int 2147483629))))
  (.cons (.ret (.bin .mod (.bi .int (.cons (.bin .fdiv (.bin .mod (.bi .int (.cons (.bin .add (.bin .mul (.var 4) (.cst (.int 48271))) (.var 2)) .nil)) (.cst (.int 2147483587))) (.cst (.int 64))) .nil)) (.var 1)))
  .nil))))))
def f_7 : MFn := ⟨2, 6, b_7⟩
def t_7 : DT := ⟨⟨("_law_take", none), "_law_take", "_law_take", defArgs (top 14), defBody (top 14), defScope (top 14), [], []⟩, ["_law_box_here", "_law_below_so", "_law_once", "_law_far_so", "_law_twice_so", "_law_drawn_so"], ["_law_box_here", "_law_below_so"], f_7⟩
/-! _law_cells -/
def b_8_L1 : MSs := (.cons (.asg (.name 5) (.bin .mod (.bi .int (.cons (.var 3) .nil)) (.var 1)))
  (.cons (.seti (.var 2) (.var 5) (.bin .add (.idx (.var 2) (.var 5)) (.bin .mul (.var 4) (.bin .add (.var 3) (.cst (.int 2))))))
  .nil))
def b_8 : MSs := (.cons (.asg (.name 2) (.bop false (.cons (.bi .listN (.cons (.sl (.var 0) .none (.some (.var 1))) .nil)) (.cons (.new (.cons (.cst (.int 0)) .nil)) .nil))))
  (.cons (.forr (.tup [3, 4]) (.enum (.sl (.var 0) (.some (.var 1)) (.some (.cst (.int 63))))) b_8_L1)
  (.cons (.ret (.frz (.var 2)))
  .nil)))
def f_8 : MFn := ⟨2, 6, b_8⟩
def t_8 : DT := ⟨⟨("_law_cells", none), "_law_cells", "_law_cells", defArgs (top 15), defBody (top 15), defScope (top 15), [], []⟩, ["_law_script", "_law_most_so", "_law_cells_here", "_law_k", "_law_cell", "_law_at_so"], ["_law_script", "_law_most_so"], f_8⟩
/-! _law_of -/
def b_9 : MSs := (.cons (.ret (.idx (.var 1) (.call 7 (.cons (.var 0) (.cons (.bi .len (.cons (.var 1) .nil)) .nil)) .nil [0, 1])))
  .nil)
def f_9 : MFn := ⟨2, 2, b_9⟩
def t_9 : DT := ⟨⟨("_law_of", none), "_law_of", "_law_of", defArgs (top 16), defBody (top 16), defScope (top 16), [], []⟩, ["_law_box_here", "_law_pool_so"], ["_law_box_here", "_law_pool_so"], f_9⟩
/-! _law_lists -/
def b_10 : MSs := (.cons (.ret (.ite (.bi1 (.isi2 .list .tuple) (.var 0)) (.comp (.name 1) [1] (.seq (.var 0)) .none (.call 10 (.cons (.var 1) .nil) .nil [0])) (.var 0)))
  .nil)
def f_10 : MFn := ⟨1, 2, b_10⟩
def t_10 : DT := ⟨⟨("_law_lists", none), "_law_lists", "_law_lists", defArgs (top 17), defBody (top 17), defScope (top 17), [], []⟩, ["_law_matter", "_law_bit"], ["_law_matter"], f_10⟩
/-! _law_same -/
def b_11 : MSs := (.cons (.ite (.bi1 (.isi2 .list .tuple) (.var 1)) (.cons (.ite (.bop false (.cons (.cmp .ne (.bi1 (.isi .list) (.var 0)) (.bi1 (.isi .list) (.var 1))) (.cons (.cmp .ne (.bi1 (.isi .tuple) (.var 0)) (.bi1 (.isi .tuple) (.var 1))) .nil))) (.cons (.ret (.cst (.bl false)))
  .nil) .nil)
  (.cons (.ret (.bop true (.cons (.cmp .eq (.bi .len (.cons (.var 0) .nil)) (.bi .len (.cons (.var 1) .nil))) (.cons (.bi .all (.cons (.comp (.tup [2, 3]) [2, 3] (.zip (.var 0) (.var 1)) .none (.call 11 (.cons (.var 2) (.cons (.var 3) .nil)) .nil [0, 1])) .nil)) .nil))))
  .nil)) .nil)
  (.cons (.ite (.bop false (.cons (.isn true (.var 1)) (.cons (.bi1 (.isi2 .bool .str) (.var 1)) .nil))) (.cons (.ret (.bop true (.cons (.cmp .eq (.var 0) (.var 1)) (.cons (.cmp .eq (.bi1 (.isi .bool) (.var 0)) (.bi1 (.isi .bool) (.var 1))) (.cons (.cmp .eq (.isn true (.var 0)) (.isn true (.var 1))) .nil)))))
  .nil) .nil)
  (.cons (.ret (.bop true (.cons (.bi1 (.isi .int) (.var 0)) (.cons (.not (.bi1 (.isi .bool) (.var 0))) (.cons (.cmp .eq (.var 0) (.var 1)) .nil)))))
  .nil)))
def f_11 : MFn := ⟨2, 4, b_11⟩
def t_11 : DT := ⟨⟨("_law_same", none), "_law_same", "_law_same", defArgs (top 18), defBody (top 18), defScope (top 18), [], []⟩, ["_law_got", "_law_due_so", "_law_mine", "_law_its"], ["_law_got", "_law_due_so"], f_11⟩
/-! _law_mixed -/
def b_12_L1 : MSs := (.cons (.asg (.name 5) (.call 7 (.cons (.var 0) (.cons (.bi .len (.cons (.var 3) .nil)) .nil)) .nil [0, 1]))
  (.cons (.expr (.mt .append (.var 4) (.cons (.idx (.var 3) (.var 5)) .nil)))
  (.cons (.asg (.name 3) (.bin .add (.sl (.var 3) .none (.some (.var 5))) (.sl (.var 3) (.some (.bin .add (.var 5) (.cst (.int 1)))) .none)))
  .nil)))
def b_12 : MSs := (.cons (.par [3, 4] (.cons (.bi .list (.cons (.var 1) .nil)) (.cons (.new .nil) .nil)))
  (.cons (.forr (.name 2) (.range1 (.bi .len (.cons (.var 1) .nil))) b_12_L1)
  (.cons (.ret (.frz (.var 4)))
  .nil)))
def f_12 : MFn := ⟨2, 6, b_12⟩
def t_12 : DT := ⟨⟨("_law_mixed", none), "_law_mixed", "_law_mixed", defArgs (top 19), defBody (top 19), defScope (top 19), [], []⟩, ["_law_box_here", "_law_rows_so", "_law_turn", "_law_rest_so", "_law_found", "_law_at_so"], ["_law_box_here", "_law_rows_so"], f_12⟩
/-! _law_plan -/
def b_13 : MSs := (.cons (.asg (.name 3) (.sl (.call 12 (.cons (.var 0) (.cons (.bi .list (.cons (.cst (.str [97, 98, 99, 100, 101, 102, 103, 104])) .nil)) .nil)) .nil [0, 1]) .none (.some (.var 1))))
  (.cons (.ret (.mt .join (.cst (.str [])) (.cons (.comp (.name 4) [4] (.range1 (.call 7 (.cons (.var 0) (.cons (.bin .add (.var 2) (.cst (.int 1))) .nil)) .nil [0, 1])) .none (.call 9 (.cons (.var 0) (.cons (.var 3) .nil)) .nil [0, 1])) .nil)))
  .nil))
def f_13 : MFn := ⟨3, 5, b_13⟩
def t_13 : DT := ⟨⟨("_law_plan", none), "_law_plan", "_law_plan", defArgs (top 20), defBody (top 20), defScope (top 20), [], []⟩, ["_law_box_here", "_law_many_so", "_law_long_so", "_law_names_so", "_law_turn"], ["_law_box_here", "_law_many_so", "_law_long_so"], f_13⟩
/-! _law_last_new -/
def b_14 : MSs := (.cons (.asg (.name 1) (.comp (.name 2) [2] (.seq (.bi1 .sset (.var 0))) .none (.mt .find (.var 0) (.cons (.var 2) .nil))))
  (.cons (.ret (.tup (.cons (.sl (.var 0) .none (.some (.bi .max (.cons (.var 1) .nil)))) (.cons (.idx (.var 0) (.bi .max (.cons (.var 1) .nil))) .nil))))
  .nil))
def f_14 : MFn := ⟨1, 3, b_14⟩
def t_14 : DT := ⟨⟨("_law_last_new", none), "_law_last_new", "_law_last_new", defArgs (top 21), defBody (top 21), defScope (top 21), [], []⟩, ["_law_plan_so", "_law_spots_so", "_law_own"], ["_law_plan_so"], f_14⟩
/-! _law_form -/
def b_15 : MSs := (.cons (.ite (.cmp .eq (.var 0) (.cst (.str []))) (.cons (.ret (.tup .nil))
  .nil) .nil)
  (.cons (.par [1, 2] (.cons (.call 14 (.cons (.var 0) .nil) .nil [0]) (.cons (.call 14 (.cons (.rev (.var 0)) .nil) .nil [0]) .nil)))
  (.cons (.ret (.tup (.cons (.call 15 (.cons (.idx (.var 1) (.cst (.int 0))) .nil) .nil [0]) (.cons (.idx (.var 1) (.cst (.int 1))) (.cons (.idx (.var 2) (.cst (.int 1))) (.cons (.call 15 (.cons (.rev (.idx (.var 2) (.cst (.int 0)))) .nil) .nil [0]) .nil))))))
  .nil)))
def f_15 : MFn := ⟨1, 3, b_15⟩
def t_15 : DT := ⟨⟨("_law_form", none), "_law_form", "_law_form", defArgs (top 22), defBody (top 22), defScope (top 22), [], []⟩, ["_law_plan_so", "_law_near_so", "_law_back_so"], ["_law_plan_so"], f_15⟩
/-! _law_plan_of -/
def b_16 : MSs := (.cons (.ite (.cmp .eq (.var 0) (.tup .nil)) (.cons (.ret (.cst (.str [])))
  .nil) .nil)
  (.cons (.ite (.bop true (.cons (.cmp .eq (.idx (.var 0) (.cst (.int 0))) (.tup .nil)) (.cons (.cmp .eq (.idx (.var 0) (.cst (.int 3))) (.tup .nil)) .nil))) (.cons (.ret (.idx (.var 0) (.cst (.int 1))))
  .nil) .nil)
  (.cons (.ret (.bin .add (.bin .add (.bin .add (.call 16 (.cons (.idx (.var 0) (.cst (.int 0))) .nil) .nil [0]) (.idx (.var 0) (.cst (.int 1)))) (.idx (.var 0) (.cst (.int 2)))) (.call 16 (.cons (.idx (.var 0) (.cst (.int 3))) .nil) .nil [0])))
  .nil)))
def f_16 : MFn := ⟨1, 1, b_16⟩
def t_16 : DT := ⟨⟨("_law_plan_of", none), "_law_plan_of", "_law_plan_of", defArgs (top 23), defBody (top 23), defScope (top 23), [], []⟩, ["_law_form_so"], ["_law_form_so"], f_16⟩
/-! _law_count -/
def b_17_L1 : MSs := (.cons (.asg (.name 1) (.bin .mul (.bin .mul (.bin .mul (.var 2) (.var 1)) (.var 2)) (.var 1)))
  .nil)
def b_17 : MSs := (.cons (.asg (.name 1) (.cst (.int 1)))
  (.cons (.forr (.name 2) (.range2 (.cst (.int 1)) (.bin .add (.var 0) (.cst (.int 1)))) b_17_L1)
  (.cons (.ret (.var 1))
  .nil)))
def f_17 : MFn := ⟨1, 3, b_17⟩
def t_17 : DT := ⟨⟨("_law_count", none), "_law_count", "_law_count", defArgs (top 24), defBody (top 24), defScope (top 24), [], []⟩, ["_law_many_so", "_law_found", "_law_k"], ["_law_many_so"], f_17⟩
/-! _law_chosen -/
def b_18 : MSs := (.cons (.ret (.mt .join (.cst (.str [])) (.cons (.bi .sorted (.cons (.sl (.call 12 (.cons (.var 0) (.cons (.bi .list (.cons (.cst (.str [97, 98, 99, 100, 101, 102, 103, 104])) .nil)) .nil)) .nil [0, 1]) .none (.some (.call 7 (.cons (.var 0) (.cons (.bin .add (.var 1) (.cst (.int 1))) .nil)) .nil [0, 1]))) .nil)) .nil)))
  .nil)
def f_18 : MFn := ⟨2, 2, b_18⟩
def t_18 : DT := ⟨⟨("_law_chosen", none), "_law_chosen", "_law_chosen", defArgs (top 25), defBody (top 25), defScope (top 25), [], []⟩, ["_law_box_here", "_law_most_so"], ["_law_box_here", "_law_most_so"], f_18⟩
/-! _law_less -/
def b_19 : MSs := (.cons (.ret (.mt .join (.cst (.str [])) (.cons (.comp (.name 2) [2] (.seq (.var 0)) (.some (.cmp .ne (.var 2) (.var 1))) (.var 2)) .nil)))
  .nil)
def f_19 : MFn := ⟨2, 3, b_19⟩
def t_19 : DT := ⟨⟨("_law_less", none), "_law_less", "_law_less", defArgs (top 26), defBody (top 26), defScope (top 26), [], []⟩, ["_law_names_so", "_law_own", "_law_bit"], ["_law_names_so", "_law_own"], f_19⟩
/-! _law_names -/
def b_20 : MSs := (.cons (.ret (.mt .join (.cst (.str [])) (.cons (.bi1 .sset (.call 16 (.cons (.var 0) .nil) .nil [0])) .nil)))
  .nil)
def f_20 : MFn := ⟨1, 1, b_20⟩
def t_20 : DT := ⟨⟨("_law_names", none), "_law_names", "_law_names", defArgs (top 27), defBody (top 27), defScope (top 27), [], []⟩, ["_law_form_so"], ["_law_form_so"], f_20⟩
/-! _law_rank -/
def b_21 : MSs := (.cons (.ite (.cmp .eq (.var 0) (.tup .nil)) (.cons (.ret (.cst (.int 0)))
  .nil) .nil)
  (.cons (.asg (.name 1) (.call 20 (.cons (.var 0) .nil) .nil [0]))
  (.cons (.par [3, 2] (.cons (.call 17 (.cons (.bin .sub (.bi .len (.cons (.var 1) .nil)) (.cst (.int 1))) .nil) .nil [0]) (.cons (.mt .find (.var 1) (.cons (.idx (.var 0) (.cst (.int 1))) .nil)) .nil)))
  (.cons (.asg (.name 2) (.bin .add (.bin .mul (.var 2) (.var 3)) (.call 21 (.cons (.idx (.var 0) (.cst (.int 0))) .nil) .nil [0])))
  (.cons (.asg (.name 2) (.bin .add (.bin .mul (.var 2) (.bi .len (.cons (.var 1) .nil))) (.mt .find (.var 1) (.cons (.idx (.var 0) (.cst (.int 2))) .nil))))
  (.cons (.ret (.bin .add (.bin .mul (.var 2) (.var 3)) (.call 21 (.cons (.idx (.var 0) (.cst (.int 3))) .nil) .nil [0])))
  .nil))))))
def f_21 : MFn := ⟨1, 4, b_21⟩
def t_21 : DT := ⟨⟨("_law_rank", none), "_law_rank", "_law_rank", defArgs (top 28), defBody (top 28), defScope (top 28), [], []⟩, ["_law_form_so", "_law_names_so", "_law_total_so", "_law_few_so"], ["_law_form_so"], f_21⟩
/-! _law_drawn_form -/
def b_22 : MSs := (.cons (.ite (.cmp .eq (.var 1) (.cst (.str []))) (.cons (.ret (.tup .nil))
  .nil) .nil)
  (.cons (.par [3, 4] (.cons (.call 9 (.cons (.var 0) (.cons (.var 1) .nil)) .nil [0, 1]) (.cons (.call 9 (.cons (.var 0) (.cons (.var 1) .nil)) .nil [0, 1]) .nil)))
  (.cons (.asg (.name 2) (.call 22 (.cons (.var 0) (.cons (.call 19 (.cons (.var 1) (.cons (.var 3) .nil)) .nil [0, 1]) .nil)) .nil [0, 1]))
  (.cons (.ret (.tup (.cons (.var 2) (.cons (.var 3) (.cons (.var 4) (.cons (.call 22 (.cons (.var 0) (.cons (.call 19 (.cons (.var 1) (.cons (.var 4) .nil)) .nil [0, 1]) .nil)) .nil [0, 1]) .nil))))))
  .nil))))
def f_22 : MFn := ⟨2, 5, b_22⟩
def t_22 : DT := ⟨⟨("_law_drawn_form", none), "_law_drawn_form", "_law_drawn_form", defArgs (top 29), defBody (top 29), defScope (top 29), [], []⟩, ["_law_box_here", "_law_names_so", "_law_ahead_so", "_law_near_so", "_law_far_so"], ["_law_box_here", "_law_names_so"], f_22⟩
/-! _law_by_hand_right -/
def b_23 : MSs := (.cons (.asg (.name 0) (.lst (.cons (.cst (.str [])) (.cons (.cst (.str [99])) (.cons (.cst (.str [98, 97, 97, 98])) (.cons (.cst (.str [98, 97, 98, 97])) (.cons (.cst (.str [97, 98, 97, 98])) (.cons (.cst (.str [97, 98, 98, 97])) (.cons (.cst (.str [98, 97, 98])) (.cons (.cst (.str [98, 97])) (.cons (.cst (.str [97, 98])) (.cons (.cst (.str [97, 98, 97])) (.cons (.cst (.str [99, 97, 98])) (.cons (.cst (.str [104, 100])) (.cons (.cst (.str [100, 104])) (.cons (.cst (.str [97, 98, 99, 97, 98, 99])) .nil))))))))))))))))
  (.cons (.asg (.name 1) (.comp (.name 6) [6] (.seq (.var 0)) .none (.call 15 (.cons (.var 6) .nil) .nil [0])))
  (.cons (.par [2, 3] (.cons (.comp (.name 6) [6] (.seq (.var 1)) .none (.call 5 (.cons (.var 6) .nil) .nil [0])) (.cons (.new (.cons (.cst (.int 0)) (.cons (.cst (.int 0)) (.cons (.cst (.int 0)) (.cons (.cst (.int 1)) (.cons (.cst (.int 2)) (.cons (.cst (.int 3)) (.cons (.cst (.int 0)) (.cons (.cst (.int 1)) (.cons (.cst (.int 2)) (.cons (.cst (.int 3)) (.cons (.cst (.int 70)) (.cons (.cst (.int 1)) (.cons (.cst (.int 2)) .nil)))))))))))))) .nil)))
  (.cons (.expr (.mt .append (.var 3) (.cons (.cst (.int 122)) .nil)))
  (.cons (.asg (.name 2) (.bin .add (.var 2) (.comp (.name 6) [6] (.seq (.var 1)) .none (.call 5 (.cons (.call 10 (.cons (.var 6) .nil) .nil [0]) .nil) .nil [0]))))
  (.cons (.asg (.name 3) (.bin .mulN (.var 3) (.cst (.int 2))))
  (.cons (.asg (.name 4) (.tup (.cons (.tup (.cons (.tup (.cons (.tup .nil) (.cons (.cst (.str [99])) (.cons (.cst (.str [99])) (.cons (.tup .nil) .nil))))) (.cons (.cst (.str [98])) (.cons (.cst (.str [98])) (.cons (.tup (.cons (.tup .nil) (.cons (.cst (.str [99])) (.cons (.cst (.str [99])) (.cons (.tup .nil) .nil))))) .nil))))) (.cons (.cst (.str [97])) (.cons (.cst (.str [97])) (.cons (.tup (.cons (.tup (.cons (.tup .nil) (.cons (.cst (.str [99])) (.cons (.cst (.str [99])) (.cons (.tup .nil) .nil))))) (.cons (.cst (.str [98])) (.cons (.cst (.str [98])) (.cons (.tup (.cons (.tup .nil) (.cons (.cst (.str [99])) (.cons (.cst (.str [99])) (.cons (.tup .nil) .nil))))) .nil))))) .nil))))))
  (.cons (.asg (.name 5) (.tup (.cons (.tup (.cons (.tup (.cons (.tup .nil) (.cons (.cst (.str [97])) (.cons (.cst (.str [97])) (.cons (.tup .nil) .nil))))) (.cons (.cst (.str [98])) (.cons (.cst (.str [98])) (.cons (.tup (.cons (.tup .nil) (.cons (.cst (.str [97])) (.cons (.cst (.str [97])) (.cons (.tup .nil) .nil))))) .nil))))) (.cons (.cst (.str [99])) (.cons (.cst (.str [99])) (.cons (.tup (.cons (.tup (.cons (.tup .nil) (.cons (.cst (.str [97])) (.cons (.cst (.str [97])) (.cons (.tup .nil) .nil))))) (.cons (.cst (.str [98])) (.cons (.cst (.str [98])) (.cons (.tup (.cons (.tup .nil) (.cons (.cst (.str [97])) (.cons (.cst (.str [97])) (.cons (.tup .nil) .nil))))) .nil))))) .nil))))))
  (.cons (.asg (.name 2) (.bin .add (.var 2) (.lst (.cons (.call 5 (.cons (.var 4) .nil) .nil [0]) (.cons (.call 5 (.cons (.var 5) .nil) .nil [0]) (.cons (.call 5 .nil (.cons (.var 5) .nil) [0]) (.cons (.cmp .lt (.call 5 (.cons (.call 15 (.cons (.bin .mul (.cst (.str [97, 98, 99, 100, 101, 102, 103, 104])) (.cst (.int 3))) .nil) .nil [0]) .nil) .nil [0]) (.call 4 (.cons (.cst (.int 8)) .nil) .nil [0])) .nil)))))))
  (.cons (.ret (.call 11 (.cons (.var 2) (.cons (.bin .add (.var 3) (.lst (.cons (.cst (.int 0)) (.cons (.cst (.int 143)) (.cons (.cst (.int 143)) (.cons (.cst (.bl true)) .nil)))))) .nil)) .nil [0, 1]))
  .nil))))))))))
def f_23 : MFn := ⟨0, 7, b_23⟩
def t_23 : DT := ⟨⟨("_law_by_hand_right", none), "_law_by_hand_right", "_law_by_hand_right", defArgs (top 30), defBody (top 30), defScope (top 30), [], []⟩, ["_law_some", "_law_forms_so", "_law_got", "_law_due", "_law_low_so", "_law_high_so", "_law_own"], [], f_23⟩
/-! _law_right -/
def b_24_L2 : MSs := (.cons (.par [4, 5] (.cons (.call 10 (.cons (.var 3) .nil) .nil [0]) (.cons (.call 21 (.cons (.var 3) .nil) .nil [0]) .nil)))
  (.cons (.ite (.not (.call 11 (.cons (.lst (.cons (.call 5 (.cons (.var 3) .nil) .nil [0]) (.cons (.call 5 (.cons (.var 4) .nil) .nil [0]) (.cons (.var 4) .nil)))) (.cons (.lst (.cons (.var 5) (.cons (.var 5) (.cons (.call 10 (.cons (.var 3) .nil) .nil [0]) .nil)))) .nil)) .nil [0, 1])) (.cons (.ret (.cst (.bl false)))
  .nil) .nil)
  .nil))
def b_24_L1 : MSs := (.cons (.asg (.name 2) (.call 18 (.cons (.var 0) (.cons (.ite (.cmp .eq (.var 1) (.cst (.int 0))) (.cst (.int 8)) (.cst (.int 5))) .nil)) .nil [0, 1]))
  (.cons (.forr (.name 3) (.seq (.tup (.cons (.call 22 (.cons (.var 0) (.cons (.var 2) .nil)) .nil [0, 1]) (.cons (.call 15 (.cons (.call 13 (.cons (.var 0) (.cons (.bin .add (.cst (.int 1)) (.call 7 (.cons (.var 0) (.cons (.cst (.int 6)) .nil)) .nil [0, 1])) (.cons (.cst (.int 30)) .nil))) .nil [0, 1, 2]) .nil) .nil [0]) .nil)))) b_24_L2)
  .nil))
def b_24 : MSs := (.cons (.forr (.name 1) (.range1 (.cst (.int 8))) b_24_L1)
  (.cons (.ret (.cst (.bl true)))
  .nil))
def f_24 : MFn := ⟨1, 6, b_24⟩
def t_24 : DT := ⟨⟨("_law_right", none), "_law_right", "_law_right", defArgs (top 31), defBody (top 31), defScope (top 31), [], []⟩, ["_law_box_here", "_law_turn", "_law_names_so", "_law_own", "_law_soft_so", "_law_due"], ["_law_box_here"], f_24⟩
/-! law -/
def b_25 : MSs := (.cons (.ite (.not (.call 23 .nil .nil [])) (.cons (.ret (.cst (.bl false)))
  .nil) .nil)
  (.cons (.asg (.name 1) (.call 8 (.cons (.var 0) (.cons (.cst (.int 3)) .nil)) .nil [0, 1]))
  (.cons (.ret (.bi .all (.cons (.comp (.name 2) [2] (.range1 (.bi .len (.cons (.var 1) .nil))) .none (.call 24 (.cons (.call 6 (.cons (.var 1) (.cons (.var 2) .nil)) .nil [0, 1]) .nil) .nil [0])) .nil)))
  .nil)))
def f_25 : MFn := ⟨1, 3, b_25⟩
def t_25 : DT := ⟨⟨("law", none), "law", "law", defArgs (top 32), defBody (top 32), defScope (top 32), [], []⟩, ["_law_script", "_law_cells_here", "_law_k"], ["_law_script"], f_25⟩
def fs : List MFn := [f_0, f_1, f_2, f_3, f_4, f_5, f_6, f_7, f_8, f_9, f_10, f_11, f_12, f_13, f_14, f_15, f_16, f_17, f_18, f_19, f_20, f_21, f_22, f_23, f_24, f_25]
def tab : List DT := [t_0, t_1, t_2, t_3, t_4, t_5, t_6, t_7, t_8, t_9, t_10, t_11, t_12, t_13, t_14, t_15, t_16, t_17, t_18, t_19, t_20, t_21, t_22, t_23, t_24, t_25]
def cons : List (Str × Dn.Dv) := [("ALPHABET", (.str [97, 98, 99, 100, 101, 102, 103, 104])), ("FOUR", (.int 4))]
def gl : List Dn.Dv := [(.str [97, 98, 99, 100, 101, 102, 103, 104]), (.int 4)]
def info : Inf := ⟨[("tupled", ["thing"]), ("letters_of", ["plan"]), ("letters_by", ["thing"]), ("letters_in", ["form"]), ("how_many_forms", ["many"]), ("number_of", ["form"]), ("_law_box", ["_law_script", "_law_k"]), ("_law_take", ["_law_box_here", "_law_below_so"]), ("_law_cells", ["_law_script", "_law_most_so"]), ("_law_of", ["_law_box_here", "_law_pool_so"]), ("_law_lists", ["_law_matter"]), ("_law_same", ["_law_got", "_law_due_so"]), ("_law_mixed", ["_law_box_here", "_law_rows_so"]), ("_law_plan", ["_law_box_here", "_law_many_so", "_law_long_so"]), ("_law_last_new", ["_law_plan_so"]), ("_law_form", ["_law_plan_so"]), ("_law_plan_of", ["_law_form_so"]), ("_law_count", ["_law_many_so"]), ("_law_chosen", ["_law_box_here", "_law_most_so"]), ("_law_less", ["_law_names_so", "_law_own"]), ("_law_names", ["_law_form_so"]), ("_law_rank", ["_law_form_so"]), ("_law_drawn_form", ["_law_box_here", "_law_names_so"]), ("_law_by_hand_right", []), ("_law_right", ["_law_box_here"]), ("law", ["_law_script"])], ["ALPHABET", "FOUR"], [(0, 1, [], [0]), (1, 1, [], [0]), (2, 1, [], [0]), (5, 1, [], [0]), (4, 1, [], [0]), (3, 1, [], [0]), (7, 2, [], [0, 1]), (10, 1, [], [0]), (11, 2, [], [0, 1]), (9, 2, [], [0, 1]), (12, 2, [], [0, 1]), (15, 1, [], [0]), (14, 1, [], [0]), (16, 1, [], [0]), (21, 1, [], [0]), (17, 1, [], [0]), (20, 1, [], [0]), (19, 2, [], [0, 1]), (22, 2, [], [0, 1]), (5, 0, ["form"], [0]), (13, 3, [], [0, 1, 2]), (18, 2, [], [0, 1]), (6, 2, [], [0, 1]), (24, 1, [], [0]), (8, 2, [], [0, 1]), (23, 0, [], [])]⟩
theorem ok_0 : t_0.ok info = true := by decide +kernel
theorem ok_1 : t_1.ok info = true := by decide +kernel
theorem ok_2 : t_2.ok info = true := by decide +kernel
theorem ok_3 : t_3.ok info = true := by decide +kernel
theorem ok_4 : t_4.ok info = true := by decide +kernel
theorem ok_5 : t_5.ok info = true := by decide +kernel
theorem ok_6 : t_6.ok info = true := by decide +kernel
theorem ok_7 : t_7.ok info = true := by decide +kernel
theorem ok_8 : t_8.ok info = true := by decide +kernel
theorem ok_9 : t_9.ok info = true := by decide +kernel
theorem ok_10 : t_10.ok info = true := by decide +kernel
theorem ok_11 : t_11.ok info = true := by decide +kernel
theorem ok_12 : t_12.ok info = true := by decide +kernel
theorem ok_13 : t_13.ok info = true := by decide +kernel
theorem ok_14 : t_14.ok info = true := by decide +kernel
theorem ok_15 : t_15.ok info = true := by decide +kernel
theorem ok_16 : t_16.ok info = true := by decide +kernel
theorem ok_17 : t_17.ok info = true := by decide +kernel
theorem ok_18 : t_18.ok info = true := by decide +kernel
theorem ok_19 : t_19.ok info = true := by decide +kernel
theorem ok_20 : t_20.ok info = true := by decide +kernel
theorem ok_21 : t_21.ok info = true := by decide +kernel
theorem ok_22 : t_22.ok info = true := by decide +kernel
theorem ok_23 : t_23.ok info = true := by decide +kernel
theorem ok_24 : t_24.ok info = true := by decide +kernel
theorem ok_25 : t_25.ok info = true := by decide +kernel
theorem bd_0 : BdT t_0 1 [] [0] := fun _ _ _ _ _ _ us ws h1 h2 => match us, ws, h1, h2 with | [a], [], _, _ => rfl
theorem bd_1 : BdT t_1 1 [] [0] := fun _ _ _ _ _ _ us ws h1 h2 => match us, ws, h1, h2 with | [a], [], _, _ => rfl
theorem bd_2 : BdT t_2 1 [] [0] := fun _ _ _ _ _ _ us ws h1 h2 => match us, ws, h1, h2 with | [a], [], _, _ => rfl
theorem bd_3 : BdT t_5 1 [] [0] := fun _ _ _ _ _ _ us ws h1 h2 => match us, ws, h1, h2 with | [a], [], _, _ => rfl
theorem bd_4 : BdT t_4 1 [] [0] := fun _ _ _ _ _ _ us ws h1 h2 => match us, ws, h1, h2 with | [a], [], _, _ => rfl
theorem bd_5 : BdT t_3 1 [] [0] := fun _ _ _ _ _ _ us ws h1 h2 => match us, ws, h1, h2 with | [a], [], _, _ => rfl
theorem bd_6 : BdT t_7 2 [] [0, 1] := fun _ _ _ _ _ _ us ws h1 h2 => match us, ws, h1, h2 with | [a, b], [], _, _ => rfl
theorem bd_7 : BdT t_10 1 [] [0] := fun _ _ _ _ _ _ us ws h1 h2 => match us, ws, h1, h2 with | [a], [], _, _ => rfl
theorem bd_8 : BdT t_11 2 [] [0, 1] := fun _ _ _ _ _ _ us ws h1 h2 => match us, ws, h1, h2 with | [a, b], [], _, _ => rfl
theorem bd_9 : BdT t_9 2 [] [0, 1] := fun _ _ _ _ _ _ us ws h1 h2 => match us, ws, h1, h2 with | [a, b], [], _, _ => rfl
theorem bd_10 : BdT t_12 2 [] [0, 1] := fun _ _ _ _ _ _ us ws h1 h2 => match us, ws, h1, h2 with | [a, b], [], _, _ => rfl
theorem bd_11 : BdT t_15 1 [] [0] := fun _ _ _ _ _ _ us ws h1 h2 => match us, ws, h1, h2 with | [a], [], _, _ => rfl
theorem bd_12 : BdT t_14 1 [] [0] := fun _ _ _ _ _ _ us ws h1 h2 => match us, ws, h1, h2 with | [a], [], _, _ => rfl
theorem bd_13 : BdT t_16 1 [] [0] := fun _ _ _ _ _ _ us ws h1 h2 => match us, ws, h1, h2 with | [a], [], _, _ => rfl
theorem bd_14 : BdT t_21 1 [] [0] := fun _ _ _ _ _ _ us ws h1 h2 => match us, ws, h1, h2 with | [a], [], _, _ => rfl
theorem bd_15 : BdT t_17 1 [] [0] := fun _ _ _ _ _ _ us ws h1 h2 => match us, ws, h1, h2 with | [a], [], _, _ => rfl
theorem bd_16 : BdT t_20 1 [] [0] := fun _ _ _ _ _ _ us ws h1 h2 => match us, ws, h1, h2 with | [a], [], _, _ => rfl
theorem bd_17 : BdT t_19 2 [] [0, 1] := fun _ _ _ _ _ _ us ws h1 h2 => match us, ws, h1, h2 with | [a, b], [], _, _ => rfl
theorem bd_18 : BdT t_22 2 [] [0, 1] := fun _ _ _ _ _ _ us ws h1 h2 => match us, ws, h1, h2 with | [a, b], [], _, _ => rfl
theorem bd_19 : BdT t_5 0 ["form"] [0] := fun _ _ _ _ _ _ us ws h1 h2 => match us, ws, h1, h2 with | [], [a], _, _ => rfl
theorem bd_20 : BdT t_13 3 [] [0, 1, 2] := fun _ _ _ _ _ _ us ws h1 h2 => match us, ws, h1, h2 with | [a, b, c], [], _, _ => rfl
theorem bd_21 : BdT t_18 2 [] [0, 1] := fun _ _ _ _ _ _ us ws h1 h2 => match us, ws, h1, h2 with | [a, b], [], _, _ => rfl
theorem bd_22 : BdT t_6 2 [] [0, 1] := fun _ _ _ _ _ _ us ws h1 h2 => match us, ws, h1, h2 with | [a, b], [], _, _ => rfl
theorem bd_23 : BdT t_24 1 [] [0] := fun _ _ _ _ _ _ us ws h1 h2 => match us, ws, h1, h2 with | [a], [], _, _ => rfl
theorem bd_24 : BdT t_8 2 [] [0, 1] := fun _ _ _ _ _ _ us ws h1 h2 => match us, ws, h1, h2 with | [a, b], [], _, _ => rfl
theorem bd_25 : BdT t_23 0 [] [] := fun _ _ _ _ _ _ us ws h1 h2 => match us, ws, h1, h2 with | [], [], _, _ => rfl
theorem bd_law : BdT t_25 1 [] [0] := fun _ _ _ _ _ _ us ws h1 h2 => match us, ws, h1, h2 with | [a], [], _, _ => rfl
theorem tabAll : Dn.AllP (fun t => t.ok info = true) tab := (.cons ok_0 (.cons ok_1 (.cons ok_2 (.cons ok_3 (.cons ok_4 (.cons ok_5 (.cons ok_6 (.cons ok_7 (.cons ok_8 (.cons ok_9 (.cons ok_10 (.cons ok_11 (.cons ok_12 (.cons ok_13 (.cons ok_14 (.cons ok_15 (.cons ok_16 (.cons ok_17 (.cons ok_18 (.cons ok_19 (.cons ok_20 (.cons ok_21 (.cons ok_22 (.cons ok_23 (.cons ok_24 (.cons ok_25 Dn.AllP.nil))))))))))))))))))))))))))
theorem bdAll : Dn.AllP (fun c => ∀ t, tab[c.1]? = some t → BdT t c.2.1 c.2.2.1 c.2.2.2) info.calls := (.cons (atP rfl bd_0) (.cons (atP rfl bd_1) (.cons (atP rfl bd_2) (.cons (atP rfl bd_3) (.cons (atP rfl bd_4) (.cons (atP rfl bd_5) (.cons (atP rfl bd_6) (.cons (atP rfl bd_7) (.cons (atP rfl bd_8) (.cons (atP rfl bd_9) (.cons (atP rfl bd_10) (.cons (atP rfl bd_11) (.cons (atP rfl bd_12) (.cons (atP rfl bd_13) (.cons (atP rfl bd_14) (.cons (atP rfl bd_15) (.cons (atP rfl bd_16) (.cons (atP rfl bd_17) (.cons (atP rfl bd_18) (.cons (atP rfl bd_19) (.cons (atP rfl bd_20) (.cons (atP rfl bd_21) (.cons (atP rfl bd_22) (.cons (atP rfl bd_23) (.cons (atP rfl bd_24) (.cons (atP rfl bd_25) Dn.AllP.nil))))))))))))))))))))))))))
theorem tabOk : TabOk info tab cons := ⟨rfl, rfl, by decide +kernel, tabAll, bdAll⟩
abbrev R : PySem.W.OpenRow := PySem.W.OpenLaw.row PySem.Challenge.rw_donetwice_k21_numbers_of_forms
def fa : List He.Fa := faOf tab cons
def fn : List He.DefD := tab.map (·.d)
abbrev hk : PySem.W.Hook := He.hookD 4 fa fn
def ob (s : PySem.W.SharedT) : He.AlD := He.obsDG 4 fa fn (HandSHeadRun.getT s)
theorem ob_eq (s : PySem.W.SharedT) : ob s = hk.obs s.abs := He.obsDG_eq (HandSHeadRun.getT_eq s)
def loose : List Str := ["tupled", "ALPHABET", "letters_of", "FOUR", "letters_by", "letters_in", "how_many_forms", "number_of", "_law_box", "_law_take", "_law_cells", "_law_of", "_law_lists", "_law_same", "_law_mixed", "_law_plan", "_law_last_new", "_law_form", "_law_plan_of", "_law_count", "_law_chosen", "_law_less", "_law_names", "_law_rank", "_law_drawn_form", "_law_by_hand_right", "_law_right"]
theorem run (w : World) : HandSHeadRun.RunEq R (PySem.W.view R.prog [32]) hk ob 4000 loose w := by
  intro os
  kernel_rfl
end Lw

set_option Elab.async false
set_option linter.all false
set_option maxRecDepth 100000
set_option maxHeartbeats 0
namespace Lw
open PySem L2 Dn
noncomputable def X : Ix := { tupled := 0, letters_of := 1, letters_by := 2, letters_in := 3, how_many_forms := 4, number_of := 5, l_take := 7, l_cells := 8, l_of := 9, l_lists := 10, l_same := 11, l_mixed := 12, l_plan := 13, l_last_new := 14, l_form := 15, l_plan_of := 16, l_count := 17, l_chosen := 18, l_less := 19, l_names := 20, l_rank := 21, l_drawn_form := 22, gALPHABET := 0, gFOUR := 1 }
theorem h_tupled : fs[X.tupled]? = some (F_tupled X) := rfl
theorem h_letters_of : fs[X.letters_of]? = some (F_letters_of X) := rfl
theorem h_letters_by : fs[X.letters_by]? = some (F_letters_by X) := rfl
theorem h_letters_in : fs[X.letters_in]? = some (F_letters_in X) := rfl
theorem h_how_many_forms : fs[X.how_many_forms]? = some (F_how_many_forms X) := rfl
theorem h_number_of : fs[X.number_of]? = some (F_number_of X) := rfl
theorem h_l_take : fs[X.l_take]? = some (F_l_take X) := rfl
theorem h_l_cells : fs[X.l_cells]? = some (F_l_cells X) := rfl
theorem h_l_of : fs[X.l_of]? = some (F_l_of X) := rfl
theorem h_l_lists : fs[X.l_lists]? = some (F_l_lists X) := rfl
theorem h_l_same : fs[X.l_same]? = some (F_l_same X) := rfl
theorem h_l_mixed : fs[X.l_mixed]? = some (F_l_mixed X) := rfl
theorem h_l_plan : fs[X.l_plan]? = some (F_l_plan X) := rfl
theorem h_l_last_new : fs[X.l_last_new]? = some (F_l_last_new X) := rfl
theorem h_l_form : fs[X.l_form]? = some (F_l_form X) := rfl
theorem h_l_plan_of : fs[X.l_plan_of]? = some (F_l_plan_of X) := rfl
theorem h_l_count : fs[X.l_count]? = some (F_l_count X) := rfl
theorem h_l_chosen : fs[X.l_chosen]? = some (F_l_chosen X) := rfl
theorem h_l_less : fs[X.l_less]? = some (F_l_less X) := rfl
theorem h_l_names : fs[X.l_names]? = some (F_l_names X) := rfl
theorem h_l_rank : fs[X.l_rank]? = some (F_l_rank X) := rfl
theorem h_l_drawn_form : fs[X.l_drawn_form]? = some (F_l_drawn_form X) := rfl
theorem g_ALPHABET : gl[X.gALPHABET]? = some (.str [97, 98, 99, 100, 101, 102, 103, 104]) := rfl
theorem g_FOUR : gl[X.gFOUR]? = some (.int 4) := rfl
end Lw
namespace Lw
open PySem L2 Dn
theorem HL : HasLForm fs X := ⟨h_l_last_new, h_l_form⟩
theorem HS : HasLetters fs gl X := ⟨h_tupled, h_letters_of, h_letters_by, h_letters_in, rfl, rfl⟩
theorem own_of {f : Fm} (q : FF f) : OF (signs (planF f)) f ∧ Pl (signs (planF f)) :=
  ⟨⟨q.v, fun c => by rw [signs_mem, mem_planF q.v]⟩, fun c hc => q.pl c ((signs_mem c _).mp hc)⟩
theorem lap_ok (f : Fm) (q : FF f) (g : Hc) (n : Nat) (x1 x2 x3 x4 x5 : Option Dn.Dv) : ∃ y5, bodyF (callF fs gl 58) gl (.name 3) b_24_L2 (fmD f) [some (.loc n), x1, x2, x3, x4, x5] g = .ok (.next [some (.loc n), x1, x2, some (fmD f), some (fmG false f), y5]) g := by
  obtain ⟨of, pn⟩ := own_of q
  have sN := signs_sorted (planF f)
  generalize signs (planF f) = N at *
  have nd : N.Nodup := sN.imp fun h => by omega
  have n8 : N.length ≤ 8 := len_nodup (b := ABC) nd pn
  have e1 := l_lists_ok (gl := gl) h_l_lists 9 48 (fmD f) g (by rw [dp_fmD]; have := q.dp; omega) (wf_fmD f)
  rw [toL_fmD] at e1
  have e2 := l_rank_ok (gl := gl) h_l_rank h_l_names h_l_plan_of h_l_count N.length (46 - N.length) N f g rfl sN pn of
  have e3 := number_of_ok HS h_number_of h_how_many_forms N.length (46 - N.length) true N f g rfl sN pn of
  have e4 := number_of_ok HS h_number_of h_how_many_forms N.length (46 - N.length) false N f g rfl sN pn of
  rw [fmG_true] at e3
  rw [show 46 - N.length + N.length + 12 = 58 by omega] at e2 e3 e4
  generalize rankF f N = R at *
  have sm := same_ok (gl := gl) h_l_same 20 37 (.lst [.int (R : Nat), .int (R : Nat), fmG false f]) g (by
    have := q.dp
    simp only [dp, dps, dp_fmG]; omega) (by simp only [wf, wfs, wf_fmG]; rfl)
  simp only [X, Nat.reduceAdd] at e1 e2 e3 e4 sm
  refine ⟨some (.int (R : Nat)), ?_⟩
  simp -implicitDefEqProofs only [b_24_L2, exs_cons, seqF, exs_nil, ex_asg, ex_par, ex_seti, ex_aug, ex_expr, ex_ret, ex_retn, ex_ite, ex_forr, ex_whil, ex_pass, ex_brk, ex_cont, ev_var, ev_cst, ev_glb, ev_bin, ev_cmp, ev_chain, ev_isn, ev_neg, ev_not, ev_bop, ev_ite, ev_tup, ev_lst, ev_new, ev_idx, ev_sl, ev_rev, ev_bi, ev_bi1, ev_mt, ev_call, ev_comp, ev_frz, evs_nil, evs_cons, evB_one, evB_cons, evO_none, evO_some, optF_int, evC_none, evC_some, evI_seq, evI_range1, evI_range2, evI_enum, evI_zip, rngF_int, rngF2_int, enuF_str, enuF_lst, permD, List.getElem?_cons_zero, List.getElem?_cons_succ, List.cons_append, List.nil_append, List.append_nil, List.set_cons_zero, List.set_cons_succ, Res.bind_ok, Res.calm_ok, tg_name, tg_tup1, tg_tup2, tg_tup3, tg_tup4, compF_ap, bodyF_ap, wipeD, List.length_cons, List.length_nil, List.zip_cons_cons, List.zip_nil_right, List.foldl_cons, List.foldl_nil, if_true, if_false, Bool.false_eq_true, Bool.true_eq_false, truth_bl, truth_str, truth_int, truth_lst, truth_tup, truth_non, Bool.not_true, Bool.not_false, beq_self_eq_true, Nat.zero_add, Nat.reduceAdd, Nat.reduceSub, SZ0, SZ1, SZ2, SZ3, SZ4, SZ5, SZ6, SZ7, SZ8, bin_add, bin_sub, cmp_lt, cmp_le, cmp_gt, cmp_ge, cmp_eqi, cmp_nei, cmp_eqs, cmp_nes, cmp_eqb, cmp_neb, cmp_inns, cmp_nins, bi_int, bi_intb, bi_abs, bi_lens, bi_lent, bi_lenl, seqD_str, seqD_tup, seqD_lst, rev_str, neg_int, endR, beq_tt, beq_ff, beq_tf, beq_ft, Bool.and_true, Bool.and_false, Bool.true_and, Bool.false_and, Bool.or_true, Bool.or_false, Bool.true_or, Bool.false_or, e1, e2, e3, e4, sm]
theorem right_ok (h : Hc) (n : Nat) (a b : Int) (fl : Flat h) (bx : Box 0 h n a b 0) : ∃ h', callF fs gl 59 24 [.loc n] h = .ok (.bl true) h' ∧ Flat h' := by
  have bx0 : BX 0 h n := ⟨fl, a, b, 0, bx⟩
  obtain ⟨s', h', e, ⟨x1, x2, x3, x4, x5, rfl⟩, b'⟩ := for_heap (cl := callF fs gl 58) (gl := gl) (tg := .name 1) (body := b_24_L1) (fun i : Nat => .int ((0 : Int) + (i : Nat)))
    (fun j s g => (∃ x1 x2 x3 x4 x5 : Option Dn.Dv, s = [some (.loc n), x1, x2, x3, x4, x5]) ∧ BX (j * 2 ^ 26) g n) (List.range 8) 0 [some (.loc n), none, none, none, none, none] h ⟨⟨_, _, _, _, _, rfl⟩, by simpa using bx0⟩ (by
      rintro j s g x hj ⟨⟨x1, x2, x3, x4, x5, rfl⟩, bg⟩ hx
      simp only [List.length_range] at hj
      obtain ⟨m, m8, im⟩ : ∃ m : Nat, m ≤ 8 ∧ (if ((0 : Int) + (x : Nat) == 0) = true then Res.ok (Dn.Dv.int 8) g else Res.ok (Dn.Dv.int 5) g) = Res.ok (Dn.Dv.int (m : Nat)) g := by
        by_cases z : x = 0
        · exact ⟨8, by omega, by rw [if_pos (by simp [z])]; rfl⟩
        · exact ⟨5, by omega, by rw [if_neg (by simp; omega)]; rfl⟩
      obtain ⟨N, g1, e1, sN, pN, b1, l1⟩ := chosen_bx (gl := gl) (k := 55) (m := m) h_l_chosen h_l_mixed h_l_take bg (by omega) m8
      have nd : N.Nodup := sN.imp fun h => by omega
      have n8 : N.length ≤ 8 := len_nodup (b := ABC) nd pN
      have p4 : 4 ^ N.length ≤ 2 ^ 16 := by
        have : 4 ^ N.length ≤ 4 ^ 8 := Nat.pow_le_pow_right (by omega) n8
        simpa using this
      obtain ⟨f, g2, e2, vf, mf, b2, l2⟩ := drawn_form_bx (gl := gl) h_l_drawn_form h_l_less h_l_take h_l_of N.length (55 - N.length) _ n N g1 rfl n8 nd b1 (by omega)
      have of : OF N f := ⟨vf, mf⟩
      obtain ⟨v, g3, e3, v1, b3, l3⟩ := take_bx (gl := gl) (k := 57) (show fs[X.l_take]? = some fTake from h_l_take) b2 (B := 6) (by omega) (by omega) (by omega) []
      simp only [List.append_nil] at e3
      obtain ⟨p, g4, e4, pl, len, b4, l4⟩ := plan_bx (gl := gl) (k := 55) (m := 1 + v) (L := 30) h_l_plan h_l_mixed h_l_take h_l_of b3 (by omega) (by omega) (by omega)
      have ev : (1 : Int) + (v : Int) = ((1 + v : Nat) : Int) := by omega
      have e5 := l_form_ok (gl := gl) HL 8 48 p g4 (nl_Pl pl) (by omega)
      obtain ⟨y5, w1⟩ := lap_ok f (of.ff pN) g4 n (some (.int ((0 : Int) + (x : Nat)))) (some (.str N)) x3 x4 x5
      obtain ⟨z5, w2⟩ := lap_ok (form p) (.of pl) g4 n (some (.int ((0 : Int) + (x : Nat)))) (some (.str N)) (some (fmD f)) (some (fmG false f)) y5
      rw [show 55 - N.length + N.length + 3 = 58 by omega] at e2
      simp only [X, castL, Nat.reduceAdd] at e1 e2 e3 e4 e5
      refine ⟨[some (.loc n), some (.int ((0 : Int) + (x : Nat))), some (.str N), some (fmD (form p)), some (fmG false (form p)), z5], g4, ?_, ⟨_, _, _, _, _, rfl⟩, b4.le (by omega)⟩
      rw [bodyF_ap]
      simp -implicitDefEqProofs only [tg_name, List.set_cons_zero, List.set_cons_succ]
      simp only [b_24_L1]
      generalize b_24_L2 = B2 at *
      have ff : forL (bodyF (callF fs gl 58) gl (.name 3) B2) [fmD f, fmD (form p)] [some (.loc n), some (.int ((0 : Int) + (x : Nat))), some (.str N), x3, x4, x5] g4 = .ok (.next [some (.loc n), some (.int ((0 : Int) + (x : Nat))), some (.str N), some (fmD (form p)), some (fmG false (form p)), z5]) g4 := by
        rw [forL_next w1, forL_next w2]; rfl
      simp -implicitDefEqProofs only [exs_cons, seqF, exs_nil, ex_asg, ex_par, ex_seti, ex_aug, ex_expr, ex_ret, ex_retn, ex_ite, ex_forr, ex_whil, ex_pass, ex_brk, ex_cont, ev_var, ev_cst, ev_glb, ev_bin, ev_cmp, ev_chain, ev_isn, ev_neg, ev_not, ev_bop, ev_ite, ev_tup, ev_lst, ev_new, ev_idx, ev_sl, ev_rev, ev_bi, ev_bi1, ev_mt, ev_call, ev_comp, ev_frz, evs_nil, evs_cons, evB_one, evB_cons, evO_none, evO_some, optF_int, evC_none, evC_some, evI_seq, evI_range1, evI_range2, evI_enum, evI_zip, rngF_int, rngF2_int, enuF_str, enuF_lst, permD, List.getElem?_cons_zero, List.getElem?_cons_succ, List.cons_append, List.nil_append, List.append_nil, List.set_cons_zero, List.set_cons_succ, Res.bind_ok, Res.calm_ok, tg_name, tg_tup1, tg_tup2, tg_tup3, tg_tup4, compF_ap, bodyF_ap, wipeD, List.length_cons, List.length_nil, List.zip_cons_cons, List.zip_nil_right, List.foldl_cons, List.foldl_nil, if_true, if_false, Bool.false_eq_true, Bool.true_eq_false, truth_bl, truth_str, truth_int, truth_lst, truth_tup, truth_non, Bool.not_true, Bool.not_false, beq_self_eq_true, Nat.zero_add, Nat.reduceAdd, Nat.reduceSub, SZ0, SZ1, SZ2, SZ3, SZ4, SZ5, SZ6, SZ7, SZ8, bin_add, bin_sub, cmp_lt, cmp_le, cmp_gt, cmp_ge, cmp_eqi, cmp_nei, cmp_eqs, cmp_nes, cmp_eqb, cmp_neb, cmp_inns, cmp_nins, bi_int, bi_intb, bi_abs, bi_lens, bi_lent, bi_lenl, seqD_str, seqD_tup, seqD_lst, rev_str, neg_int, endR, beq_tt, beq_ff, beq_tf, beq_ft, Bool.and_true, Bool.and_false, Bool.true_and, Bool.false_and, Bool.or_true, Bool.or_false, Bool.true_or, Bool.false_or, im, e1, e2, e3, ev, e4, e5, ff])
  rw [callF_in (show fs[24]? = some f_24 from rfl) rfl]
  have rg : rangeD 0 8 h = .ok ((List.range 8).map fun i => .int ((0 : Int) + (i : Nat))) h := rfl
  obtain ⟨h2, tl, f2⟩ := trim_any (n := h.length) (v := .bl true) b'.flat rfl
  refine ⟨h2, ?_, f2⟩
  simp only [f_24, b_24, startD, List.map_cons, List.map_nil, List.replicate, List.length_cons, List.length_nil, Nat.reduceAdd, Nat.reduceSub, List.cons_append, List.nil_append]
  simp -implicitDefEqProofs only [exs_cons, seqF, exs_nil, ex_asg, ex_par, ex_seti, ex_aug, ex_expr, ex_ret, ex_retn, ex_ite, ex_forr, ex_whil, ex_pass, ex_brk, ex_cont, ev_var, ev_cst, ev_glb, ev_bin, ev_cmp, ev_chain, ev_isn, ev_neg, ev_not, ev_bop, ev_ite, ev_tup, ev_lst, ev_new, ev_idx, ev_sl, ev_rev, ev_bi, ev_bi1, ev_mt, ev_call, ev_comp, ev_frz, evs_nil, evs_cons, evB_one, evB_cons, evO_none, evO_some, optF_int, evC_none, evC_some, evI_seq, evI_range1, evI_range2, evI_enum, evI_zip, rngF_int, rngF2_int, enuF_str, enuF_lst, permD, List.getElem?_cons_zero, List.getElem?_cons_succ, List.cons_append, List.nil_append, List.append_nil, List.set_cons_zero, List.set_cons_succ, Res.bind_ok, Res.calm_ok, tg_name, tg_tup1, tg_tup2, tg_tup3, tg_tup4, compF_ap, bodyF_ap, wipeD, List.length_cons, List.length_nil, List.zip_cons_cons, List.zip_nil_right, List.foldl_cons, List.foldl_nil, if_true, if_false, Bool.false_eq_true, Bool.true_eq_false, truth_bl, truth_str, truth_int, truth_lst, truth_tup, truth_non, Bool.not_true, Bool.not_false, beq_self_eq_true, Nat.zero_add, Nat.reduceAdd, Nat.reduceSub, SZ0, SZ1, SZ2, SZ3, SZ4, SZ5, SZ6, SZ7, SZ8, bin_add, bin_sub, cmp_lt, cmp_le, cmp_gt, cmp_ge, cmp_eqi, cmp_nei, cmp_eqs, cmp_nes, cmp_eqb, cmp_neb, cmp_inns, cmp_nins, bi_int, bi_intb, bi_abs, bi_lens, bi_lent, bi_lenl, seqD_str, seqD_tup, seqD_lst, rev_str, neg_int, endR, beq_tt, beq_ff, beq_tf, beq_ft, Bool.and_true, Bool.and_false, Bool.true_and, Bool.false_and, Bool.or_true, Bool.or_false, Bool.true_or, Bool.false_or, rg, e, tl]
def bh0_pf (i : Nat) : Bool := decide (i ∈ [0, 1, 2, 3, 4, 5, 10, 11, 14, 15, 16, 17, 19, 20, 21])
theorem bh0_pfs : pFs bh0_pf fs = true := by decide +kernel
def bh0_b0 : MSs := b_23
def bh0_b1 : MSs := sTl bh0_b0
def bh0_b2 : MSs := sTl bh0_b1
def bh0_b3 : MSs := sTl bh0_b2
def bh0_b4 : MSs := sTl bh0_b3
def bh0_b5 : MSs := sTl bh0_b4
def bh0_b6 : MSs := sTl bh0_b5
def bh0_b7 : MSs := sTl bh0_b6
def bh0_b8 : MSs := sTl bh0_b7
def bh0_b9 : MSs := sTl bh0_b8
def bh0_w0 : List Dn.Dv := [.str [], .str [99], .str [98, 97, 97, 98], .str [98, 97, 98, 97], .str [97, 98, 97, 98], .str [97, 98, 98, 97], .str [98, 97, 98], .str [98, 97], .str [97, 98], .str [97, 98, 97], .str [99, 97, 98], .str [104, 100], .str [100, 104], .str [97, 98, 99, 97, 98, 99]]
def bh0_e1 : Env1 := [some (.lst bh0_w0), none, none, none, none, none, none]
theorem bh0_s0 (ns : List Int) : ex (callF fs gl 58) gl (sHd bh0_b0) [none, none, none, none, none, none, none] [.scr ns] = .ok (.next bh0_e1) [.scr ns] := by kernel_rfl
def bh0_w1 : List Dn.Dv := [.tup [.tup [], .str [98], .str [98], .tup []], .str [97], .str [97], .tup [.tup [], .str [98], .str [98], .tup []]]
def bh0_w2 : List Dn.Dv := [.tup [.tup [], .str [98], .str [98], .tup []], .str [97], .str [98], .tup [.tup [], .str [97], .str [97], .tup []]]
def bh0_w3 : List Dn.Dv := [.tup [.tup [], .str [97], .str [97], .tup []], .str [98], .str [97], .tup [.tup [], .str [98], .str [98], .tup []]]
def bh0_w4 : List Dn.Dv := [.tup [.tup [], .str [97], .str [97], .tup []], .str [98], .str [98], .tup [.tup [], .str [97], .str [97], .tup []]]
def bh0_w5 : List Dn.Dv := [.tup [.tup [], .str [99], .str [99], .tup []], .str [97], .str [99], .tup [.tup [], .str [97], .str [97], .tup []]]
def bh0_w6 : List Dn.Dv := [.tup [.tup [], .str [104], .str [104], .tup []], .str [100], .str [104], .tup [.tup [], .str [100], .str [100], .tup []]]
def bh0_w7 : List Dn.Dv := [.tup [.tup [], .str [100], .str [100], .tup []], .str [104], .str [100], .tup [.tup [], .str [104], .str [104], .tup []]]
def bh0_w8 : List Dn.Dv := [.tup [.tup [], .str [98], .str [98], .tup []], .str [99], .str [98], .tup [.tup [], .str [99], .str [99], .tup []]]
def bh0_w9 : List Dn.Dv := [.tup [], .tup [.tup [], .str [99], .str [99], .tup []], .tup bh0_w1, .tup bh0_w2, .tup bh0_w3, .tup bh0_w4, .tup bh0_w1, .tup bh0_w2, .tup bh0_w3, .tup bh0_w4, .tup [.tup bh0_w5, .str [98], .str [99], .tup bh0_w3], .tup bh0_w6, .tup bh0_w7, .tup [.tup bh0_w3, .str [99], .str [97], .tup bh0_w8]]
def bh0_e2 : Env1 := [some (.lst bh0_w0), some (.lst bh0_w9), none, none, none, none, none]
theorem bh0_s1 (ns : List Int) : ex (callF fs gl 58) gl (sHd bh0_b1) bh0_e1 [.scr ns] = .ok (.next bh0_e2) [.scr ns] := by kernel_rfl
def bh0_w10 : List Dn.Dv := [.int 0, .int 0, .int 0, .int 1, .int 2, .int 3, .int 0, .int 1, .int 2, .int 3, .int 70, .int 1, .int 2]
def bh0_w11 : List Dn.Dv := bh0_w10 ++ [.int 122]
def bh0_e3 : Env1 := [some (.lst bh0_w0), some (.lst bh0_w9), some (.lst bh0_w11), some (.loc 1), none, none, none]
theorem bh0_r0 (h : Hc) (hc : h.all (belowC h.length) = true) : callF fs gl 58 5 [.tup []] h = .ok (.int 0) h := number_row HS h_number_of h_how_many_forms true 38 (f := .nil) h (by kernel_rfl) (by kernel_rfl) (by kernel_rfl)
theorem bh0_r1 (h : Hc) (hc : h.all (belowC h.length) = true) : callF fs gl 58 5 [.tup [.tup [], .str [99], .str [99], .tup []]] h = .ok (.int 0) h := number_row HS h_number_of h_how_many_forms true 38 (f := (.node .nil 99 99 .nil)) h (by kernel_rfl) (by kernel_rfl) (by kernel_rfl)
theorem bh0_r2 (h : Hc) (hc : h.all (belowC h.length) = true) : callF fs gl 58 5 [.tup bh0_w1] h = .ok (.int 0) h := number_row HS h_number_of h_how_many_forms true 38 (f := (.node (.node .nil 98 98 .nil) 97 97 (.node .nil 98 98 .nil))) h (by kernel_rfl) (by kernel_rfl) (by kernel_rfl)
theorem bh0_r3 (h : Hc) (hc : h.all (belowC h.length) = true) : callF fs gl 58 5 [.tup bh0_w2] h = .ok (.int 1) h := number_row HS h_number_of h_how_many_forms true 38 (f := (.node (.node .nil 98 98 .nil) 97 98 (.node .nil 97 97 .nil))) h (by kernel_rfl) (by kernel_rfl) (by kernel_rfl)
theorem bh0_r4 (h : Hc) (hc : h.all (belowC h.length) = true) : callF fs gl 58 5 [.tup bh0_w3] h = .ok (.int 2) h := number_row HS h_number_of h_how_many_forms true 38 (f := (.node (.node .nil 97 97 .nil) 98 97 (.node .nil 98 98 .nil))) h (by kernel_rfl) (by kernel_rfl) (by kernel_rfl)
theorem bh0_r5 (h : Hc) (hc : h.all (belowC h.length) = true) : callF fs gl 58 5 [.tup bh0_w4] h = .ok (.int 3) h := number_row HS h_number_of h_how_many_forms true 38 (f := (.node (.node .nil 97 97 .nil) 98 98 (.node .nil 97 97 .nil))) h (by kernel_rfl) (by kernel_rfl) (by kernel_rfl)
def bh0_f0 : Fm := .node (.node (.node .nil 99 99 .nil) 97 99 (.node .nil 97 97 .nil)) 98 99 (.node (.node .nil 97 97 .nil) 98 97 (.node .nil 98 98 .nil))
theorem bh0_r6 (h : Hc) (hc : h.all (belowC h.length) = true) : callF fs gl 58 5 [.tup [.tup bh0_w5, .str [98], .str [99], .tup bh0_w3]] h = .ok (.int 70) h := number_row HS h_number_of h_how_many_forms true 38 (f := bh0_f0) h (by kernel_rfl) (by kernel_rfl) (by kernel_rfl)
def bh0_f1 : Fm := .node (.node .nil 104 104 .nil) 100 104 (.node .nil 100 100 .nil)
theorem bh0_r7 (h : Hc) (hc : h.all (belowC h.length) = true) : callF fs gl 58 5 [.tup bh0_w6] h = .ok (.int 1) h := number_row HS h_number_of h_how_many_forms true 38 (f := bh0_f1) h (by kernel_rfl) (by kernel_rfl) (by kernel_rfl)
def bh0_f2 : Fm := .node (.node .nil 100 100 .nil) 104 100 (.node .nil 104 104 .nil)
theorem bh0_r8 (h : Hc) (hc : h.all (belowC h.length) = true) : callF fs gl 58 5 [.tup bh0_w7] h = .ok (.int 2) h := number_row HS h_number_of h_how_many_forms true 38 (f := bh0_f2) h (by kernel_rfl) (by kernel_rfl) (by kernel_rfl)
def bh0_f3 : Fm := .node (.node (.node .nil 97 97 .nil) 98 97 (.node .nil 98 98 .nil)) 99 97 (.node (.node .nil 98 98 .nil) 99 98 (.node .nil 99 99 .nil))
theorem bh0_r9 (h : Hc) (hc : h.all (belowC h.length) = true) : callF fs gl 58 5 [.tup [.tup bh0_w3, .str [99], .str [97], .tup bh0_w8]] h = .ok (.int 122) h := number_row HS h_number_of h_how_many_forms true 38 (f := bh0_f3) h (by kernel_rfl) (by kernel_rfl) (by kernel_rfl)
def bh0_t2 : List Row := [⟨5, [.tup []], .int 0⟩, ⟨5, [.tup [.tup [], .str [99], .str [99], .tup []]], .int 0⟩, ⟨5, [.tup bh0_w1], .int 0⟩, ⟨5, [.tup bh0_w2], .int 1⟩, ⟨5, [.tup bh0_w3], .int 2⟩, ⟨5, [.tup bh0_w4], .int 3⟩, ⟨5, [.tup [.tup bh0_w5, .str [98], .str [99], .tup bh0_w3]], .int 70⟩, ⟨5, [.tup bh0_w6], .int 1⟩, ⟨5, [.tup bh0_w7], .int 2⟩, ⟨5, [.tup [.tup bh0_w3, .str [99], .str [97], .tup bh0_w8]], .int 122⟩]
theorem bh0_q2 : Rows (callF fs gl 58) bh0_t2 := (.cons bh0_r0 (.cons bh0_r1 (.cons bh0_r2 (.cons bh0_r3 (.cons bh0_r4 (.cons bh0_r5 (.cons bh0_r6 (.cons bh0_r7 (.cons bh0_r8 (.cons bh0_r9 .nil))))))))))
theorem bh0_s2 (ns : List Int) : ex (callF fs gl 58) gl (sHd bh0_b2) bh0_e2 [.scr ns] = .ok (.next bh0_e3) [.scr ns, .lst bh0_w10] := ex_tab bh0_q2 (by kernel_rfl)
def bh0_e4 : Env1 := [some (.lst bh0_w0), some (.lst bh0_w9), some (.lst bh0_w11), some (.loc 1), none, none, none]
theorem bh0_s3 (ns : List Int) : ex (callF fs gl 58) gl (sHd bh0_b3) bh0_e3 [.scr ns, .lst bh0_w10] = .ok (.next bh0_e4) [.scr ns, .lst bh0_w11] := by kernel_rfl
def bh0_w12 : List Dn.Dv := bh0_w11 ++ [.int 0, .int 0, .int 0, .int 1, .int 2, .int 3, .int 0, .int 1, .int 2, .int 3, .int 70, .int 1, .int 2, .int 122]
def bh0_e5 : Env1 := [some (.lst bh0_w0), some (.lst bh0_w9), some (.lst bh0_w12), some (.loc 1), none, none, none]
theorem bh0_r10z : callF fs gl 58 10 [.tup []] [] = .ok (.lst []) [] := by kernel_rfl
theorem bh0_r10 (h : Hc) (hc : h.all (belowC h.length) = true) : callF fs gl 58 10 [.tup []] h = .ok (.lst []) h := pure_call bh0_pfs rfl rfl rfl bh0_r10z h
theorem bh0_r11 (h : Hc) (hc : h.all (belowC h.length) = true) : callF fs gl 58 5 [.lst []] h = .ok (.int 0) h := number_row HS h_number_of h_how_many_forms false 38 (f := .nil) h (by kernel_rfl) (by kernel_rfl) (by kernel_rfl)
theorem bh0_r12z : callF fs gl 58 10 [.tup [.tup [], .str [99], .str [99], .tup []]] [] = .ok (.lst [.lst [], .str [99], .str [99], .lst []]) [] := by kernel_rfl
theorem bh0_r12 (h : Hc) (hc : h.all (belowC h.length) = true) : callF fs gl 58 10 [.tup [.tup [], .str [99], .str [99], .tup []]] h = .ok (.lst [.lst [], .str [99], .str [99], .lst []]) h := pure_call bh0_pfs rfl rfl rfl bh0_r12z h
theorem bh0_r13 (h : Hc) (hc : h.all (belowC h.length) = true) : callF fs gl 58 5 [.lst [.lst [], .str [99], .str [99], .lst []]] h = .ok (.int 0) h := number_row HS h_number_of h_how_many_forms false 38 (f := (.node .nil 99 99 .nil)) h (by kernel_rfl) (by kernel_rfl) (by kernel_rfl)
def bh0_w13 : List Dn.Dv := [.lst [.lst [], .str [98], .str [98], .lst []], .str [97], .str [97], .lst [.lst [], .str [98], .str [98], .lst []]]
theorem bh0_r14z : callF fs gl 58 10 [.tup bh0_w1] [] = .ok (.lst bh0_w13) [] := by kernel_rfl
theorem bh0_r14 (h : Hc) (hc : h.all (belowC h.length) = true) : callF fs gl 58 10 [.tup bh0_w1] h = .ok (.lst bh0_w13) h := pure_call bh0_pfs rfl rfl rfl bh0_r14z h
theorem bh0_r15 (h : Hc) (hc : h.all (belowC h.length) = true) : callF fs gl 58 5 [.lst bh0_w13] h = .ok (.int 0) h := number_row HS h_number_of h_how_many_forms false 38 (f := (.node (.node .nil 98 98 .nil) 97 97 (.node .nil 98 98 .nil))) h (by kernel_rfl) (by kernel_rfl) (by kernel_rfl)
def bh0_w14 : List Dn.Dv := [.lst [.lst [], .str [98], .str [98], .lst []], .str [97], .str [98], .lst [.lst [], .str [97], .str [97], .lst []]]
theorem bh0_r16z : callF fs gl 58 10 [.tup bh0_w2] [] = .ok (.lst bh0_w14) [] := by kernel_rfl
theorem bh0_r16 (h : Hc) (hc : h.all (belowC h.length) = true) : callF fs gl 58 10 [.tup bh0_w2] h = .ok (.lst bh0_w14) h := pure_call bh0_pfs rfl rfl rfl bh0_r16z h
theorem bh0_r17 (h : Hc) (hc : h.all (belowC h.length) = true) : callF fs gl 58 5 [.lst bh0_w14] h = .ok (.int 1) h := number_row HS h_number_of h_how_many_forms false 38 (f := (.node (.node .nil 98 98 .nil) 97 98 (.node .nil 97 97 .nil))) h (by kernel_rfl) (by kernel_rfl) (by kernel_rfl)
def bh0_w15 : List Dn.Dv := [.lst [.lst [], .str [97], .str [97], .lst []], .str [98], .str [97], .lst [.lst [], .str [98], .str [98], .lst []]]
theorem bh0_r18z : callF fs gl 58 10 [.tup bh0_w3] [] = .ok (.lst bh0_w15) [] := by kernel_rfl
theorem bh0_r18 (h : Hc) (hc : h.all (belowC h.length) = true) : callF fs gl 58 10 [.tup bh0_w3] h = .ok (.lst bh0_w15) h := pure_call bh0_pfs rfl rfl rfl bh0_r18z h
theorem bh0_r19 (h : Hc) (hc : h.all (belowC h.length) = true) : callF fs gl 58 5 [.lst bh0_w15] h = .ok (.int 2) h := number_row HS h_number_of h_how_many_forms false 38 (f := (.node (.node .nil 97 97 .nil) 98 97 (.node .nil 98 98 .nil))) h (by kernel_rfl) (by kernel_rfl) (by kernel_rfl)
def bh0_w16 : List Dn.Dv := [.lst [.lst [], .str [97], .str [97], .lst []], .str [98], .str [98], .lst [.lst [], .str [97], .str [97], .lst []]]
theorem bh0_r20z : callF fs gl 58 10 [.tup bh0_w4] [] = .ok (.lst bh0_w16) [] := by kernel_rfl
theorem bh0_r20 (h : Hc) (hc : h.all (belowC h.length) = true) : callF fs gl 58 10 [.tup bh0_w4] h = .ok (.lst bh0_w16) h := pure_call bh0_pfs rfl rfl rfl bh0_r20z h
theorem bh0_r21 (h : Hc) (hc : h.all (belowC h.length) = true) : callF fs gl 58 5 [.lst bh0_w16] h = .ok (.int 3) h := number_row HS h_number_of h_how_many_forms false 38 (f := (.node (.node .nil 97 97 .nil) 98 98 (.node .nil 97 97 .nil))) h (by kernel_rfl) (by kernel_rfl) (by kernel_rfl)
def bh0_w17 : List Dn.Dv := [.lst [.lst [], .str [99], .str [99], .lst []], .str [97], .str [99], .lst [.lst [], .str [97], .str [97], .lst []]]
theorem bh0_r22z : callF fs gl 58 10 [.tup [.tup bh0_w5, .str [98], .str [99], .tup bh0_w3]] [] = .ok (.lst [.lst bh0_w17, .str [98], .str [99], .lst bh0_w15]) [] := by kernel_rfl
theorem bh0_r22 (h : Hc) (hc : h.all (belowC h.length) = true) : callF fs gl 58 10 [.tup [.tup bh0_w5, .str [98], .str [99], .tup bh0_w3]] h = .ok (.lst [.lst bh0_w17, .str [98], .str [99], .lst bh0_w15]) h := pure_call bh0_pfs rfl rfl rfl bh0_r22z h
def bh0_f4 : Fm := .node (.node (.node .nil 99 99 .nil) 97 99 (.node .nil 97 97 .nil)) 98 99 (.node (.node .nil 97 97 .nil) 98 97 (.node .nil 98 98 .nil))
theorem bh0_r23 (h : Hc) (hc : h.all (belowC h.length) = true) : callF fs gl 58 5 [.lst [.lst bh0_w17, .str [98], .str [99], .lst bh0_w15]] h = .ok (.int 70) h := number_row HS h_number_of h_how_many_forms false 38 (f := bh0_f4) h (by kernel_rfl) (by kernel_rfl) (by kernel_rfl)
def bh0_w18 : List Dn.Dv := [.lst [.lst [], .str [104], .str [104], .lst []], .str [100], .str [104], .lst [.lst [], .str [100], .str [100], .lst []]]
theorem bh0_r24z : callF fs gl 58 10 [.tup bh0_w6] [] = .ok (.lst bh0_w18) [] := by kernel_rfl
theorem bh0_r24 (h : Hc) (hc : h.all (belowC h.length) = true) : callF fs gl 58 10 [.tup bh0_w6] h = .ok (.lst bh0_w18) h := pure_call bh0_pfs rfl rfl rfl bh0_r24z h
def bh0_f5 : Fm := .node (.node .nil 104 104 .nil) 100 104 (.node .nil 100 100 .nil)
theorem bh0_r25 (h : Hc) (hc : h.all (belowC h.length) = true) : callF fs gl 58 5 [.lst bh0_w18] h = .ok (.int 1) h := number_row HS h_number_of h_how_many_forms false 38 (f := bh0_f5) h (by kernel_rfl) (by kernel_rfl) (by kernel_rfl)
def bh0_w19 : List Dn.Dv := [.lst [.lst [], .str [100], .str [100], .lst []], .str [104], .str [100], .lst [.lst [], .str [104], .str [104], .lst []]]
theorem bh0_r26z : callF fs gl 58 10 [.tup bh0_w7] [] = .ok (.lst bh0_w19) [] := by kernel_rfl
theorem bh0_r26 (h : Hc) (hc : h.all (belowC h.length) = true) : callF fs gl 58 10 [.tup bh0_w7] h = .ok (.lst bh0_w19) h := pure_call bh0_pfs rfl rfl rfl bh0_r26z h
def bh0_f6 : Fm := .node (.node .nil 100 100 .nil) 104 100 (.node .nil 104 104 .nil)
theorem bh0_r27 (h : Hc) (hc : h.all (belowC h.length) = true) : callF fs gl 58 5 [.lst bh0_w19] h = .ok (.int 2) h := number_row HS h_number_of h_how_many_forms false 38 (f := bh0_f6) h (by kernel_rfl) (by kernel_rfl) (by kernel_rfl)
def bh0_w20 : List Dn.Dv := [.lst [.lst [], .str [98], .str [98], .lst []], .str [99], .str [98], .lst [.lst [], .str [99], .str [99], .lst []]]
theorem bh0_r28z : callF fs gl 58 10 [.tup [.tup bh0_w3, .str [99], .str [97], .tup bh0_w8]] [] = .ok (.lst [.lst bh0_w15, .str [99], .str [97], .lst bh0_w20]) [] := by kernel_rfl
theorem bh0_r28 (h : Hc) (hc : h.all (belowC h.length) = true) : callF fs gl 58 10 [.tup [.tup bh0_w3, .str [99], .str [97], .tup bh0_w8]] h = .ok (.lst [.lst bh0_w15, .str [99], .str [97], .lst bh0_w20]) h := pure_call bh0_pfs rfl rfl rfl bh0_r28z h
def bh0_f7 : Fm := .node (.node (.node .nil 97 97 .nil) 98 97 (.node .nil 98 98 .nil)) 99 97 (.node (.node .nil 98 98 .nil) 99 98 (.node .nil 99 99 .nil))
theorem bh0_r29 (h : Hc) (hc : h.all (belowC h.length) = true) : callF fs gl 58 5 [.lst [.lst bh0_w15, .str [99], .str [97], .lst bh0_w20]] h = .ok (.int 122) h := number_row HS h_number_of h_how_many_forms false 38 (f := bh0_f7) h (by kernel_rfl) (by kernel_rfl) (by kernel_rfl)
def bh0_t4 : List Row := [⟨10, [.tup []], .lst []⟩, ⟨5, [.lst []], .int 0⟩, ⟨10, [.tup [.tup [], .str [99], .str [99], .tup []]], .lst [.lst [], .str [99], .str [99], .lst []]⟩, ⟨5, [.lst [.lst [], .str [99], .str [99], .lst []]], .int 0⟩, ⟨10, [.tup bh0_w1], .lst bh0_w13⟩, ⟨5, [.lst bh0_w13], .int 0⟩, ⟨10, [.tup bh0_w2], .lst bh0_w14⟩, ⟨5, [.lst bh0_w14], .int 1⟩, ⟨10, [.tup bh0_w3], .lst bh0_w15⟩, ⟨5, [.lst bh0_w15], .int 2⟩, ⟨10, [.tup bh0_w4], .lst bh0_w16⟩, ⟨5, [.lst bh0_w16], .int 3⟩, ⟨10, [.tup [.tup bh0_w5, .str [98], .str [99], .tup bh0_w3]], .lst [.lst bh0_w17, .str [98], .str [99], .lst bh0_w15]⟩, ⟨5, [.lst [.lst bh0_w17, .str [98], .str [99], .lst bh0_w15]], .int 70⟩, ⟨10, [.tup bh0_w6], .lst bh0_w18⟩, ⟨5, [.lst bh0_w18], .int 1⟩, ⟨10, [.tup bh0_w7], .lst bh0_w19⟩, ⟨5, [.lst bh0_w19], .int 2⟩, ⟨10, [.tup [.tup bh0_w3, .str [99], .str [97], .tup bh0_w8]], .lst [.lst bh0_w15, .str [99], .str [97], .lst bh0_w20]⟩, ⟨5, [.lst [.lst bh0_w15, .str [99], .str [97], .lst bh0_w20]], .int 122⟩]
theorem bh0_q4 : Rows (callF fs gl 58) bh0_t4 := (.cons bh0_r10 (.cons bh0_r11 (.cons bh0_r12 (.cons bh0_r13 (.cons bh0_r14 (.cons bh0_r15 (.cons bh0_r16 (.cons bh0_r17 (.cons bh0_r18 (.cons bh0_r19 (.cons bh0_r20 (.cons bh0_r21 (.cons bh0_r22 (.cons bh0_r23 (.cons bh0_r24 (.cons bh0_r25 (.cons bh0_r26 (.cons bh0_r27 (.cons bh0_r28 (.cons bh0_r29 .nil))))))))))))))))))))
theorem bh0_s4 (ns : List Int) : ex (callF fs gl 58) gl (sHd bh0_b4) bh0_e4 [.scr ns, .lst bh0_w11] = .ok (.next bh0_e5) [.scr ns, .lst bh0_w11] := ex_tab bh0_q4 (by kernel_rfl)
def bh0_e6 : Env1 := [some (.lst bh0_w0), some (.lst bh0_w9), some (.lst bh0_w12), some (.loc 2), none, none, none]
theorem bh0_s5 (ns : List Int) : ex (callF fs gl 58) gl (sHd bh0_b5) bh0_e5 [.scr ns, .lst bh0_w11] = .ok (.next bh0_e6) [.scr ns, .lst bh0_w11, .lst bh0_w12] := by kernel_rfl
def bh0_w21 : List Dn.Dv := [.tup [.tup [], .str [99], .str [99], .tup []], .str [98], .str [98], .tup [.tup [], .str [99], .str [99], .tup []]]
def bh0_e7 : Env1 := [some (.lst bh0_w0), some (.lst bh0_w9), some (.lst bh0_w12), some (.loc 2), some (.tup [.tup bh0_w21, .str [97], .str [97], .tup bh0_w21]), none, none]
theorem bh0_s6 (ns : List Int) : ex (callF fs gl 58) gl (sHd bh0_b6) bh0_e6 [.scr ns, .lst bh0_w11, .lst bh0_w12] = .ok (.next bh0_e7) [.scr ns, .lst bh0_w11, .lst bh0_w12] := by kernel_rfl
def bh0_e8 : Env1 := [some (.lst bh0_w0), some (.lst bh0_w9), some (.lst bh0_w12), some (.loc 2), some (.tup [.tup bh0_w21, .str [97], .str [97], .tup bh0_w21]), some (.tup [.tup bh0_w4, .str [99], .str [99], .tup bh0_w4]), none]
theorem bh0_s7 (ns : List Int) : ex (callF fs gl 58) gl (sHd bh0_b7) bh0_e7 [.scr ns, .lst bh0_w11, .lst bh0_w12] = .ok (.next bh0_e8) [.scr ns, .lst bh0_w11, .lst bh0_w12] := by kernel_rfl
def bh0_w22 : List Dn.Dv := bh0_w12 ++ [.int 0, .int 143, .int 143, .bl true]
def bh0_e9 : Env1 := [some (.lst bh0_w0), some (.lst bh0_w9), some (.lst bh0_w22), some (.loc 2), some (.tup [.tup bh0_w21, .str [97], .str [97], .tup bh0_w21]), some (.tup [.tup bh0_w4, .str [99], .str [99], .tup bh0_w4]), none]
def bh0_f8 : Fm := .node (.node (.node .nil 99 99 .nil) 98 98 (.node .nil 99 99 .nil)) 97 97 (.node (.node .nil 99 99 .nil) 98 98 (.node .nil 99 99 .nil))
theorem bh0_r30 (h : Hc) (hc : h.all (belowC h.length) = true) : callF fs gl 58 5 [.tup [.tup bh0_w21, .str [97], .str [97], .tup bh0_w21]] h = .ok (.int 0) h := number_row HS h_number_of h_how_many_forms true 38 (f := bh0_f8) h (by kernel_rfl) (by kernel_rfl) (by kernel_rfl)
def bh0_f9 : Fm := .node (.node (.node .nil 97 97 .nil) 98 98 (.node .nil 97 97 .nil)) 99 99 (.node (.node .nil 97 97 .nil) 98 98 (.node .nil 97 97 .nil))
theorem bh0_r31 (h : Hc) (hc : h.all (belowC h.length) = true) : callF fs gl 58 5 [.tup [.tup bh0_w4, .str [99], .str [99], .tup bh0_w4]] h = .ok (.int 143) h := number_row HS h_number_of h_how_many_forms true 38 (f := bh0_f9) h (by kernel_rfl) (by kernel_rfl) (by kernel_rfl)
def bh0_w23 : List Dn.Dv := [.tup [.tup [], .str [99], .str [99], .tup []], .str [100], .str [99], .tup [.tup [], .str [100], .str [100], .tup []]]
def bh0_w24 : List Dn.Dv := [.tup [.tup bh0_w3, .str [99], .str [97], .tup bh0_w8], .str [100], .str [97], .tup [.tup bh0_w8, .str [100], .str [98], .tup bh0_w23]]
def bh0_w25 : List Dn.Dv := [.tup [.tup [], .str [100], .str [100], .tup []], .str [101], .str [100], .tup [.tup [], .str [101], .str [101], .tup []]]
def bh0_w26 : List Dn.Dv := [.tup [.tup bh0_w8, .str [100], .str [98], .tup bh0_w23], .str [101], .str [98], .tup [.tup bh0_w23, .str [101], .str [99], .tup bh0_w25]]
def bh0_w27 : List Dn.Dv := [.tup [.tup [], .str [101], .str [101], .tup []], .str [102], .str [101], .tup [.tup [], .str [102], .str [102], .tup []]]
def bh0_w28 : List Dn.Dv := [.tup [.tup bh0_w23, .str [101], .str [99], .tup bh0_w25], .str [102], .str [99], .tup [.tup bh0_w25, .str [102], .str [100], .tup bh0_w27]]
def bh0_w29 : List Dn.Dv := [.tup [.tup bh0_w24, .str [101], .str [97], .tup bh0_w26], .str [102], .str [97], .tup [.tup bh0_w26, .str [102], .str [98], .tup bh0_w28]]
def bh0_w30 : List Dn.Dv := [.tup [.tup [], .str [102], .str [102], .tup []], .str [103], .str [102], .tup [.tup [], .str [103], .str [103], .tup []]]
def bh0_w31 : List Dn.Dv := [.tup [.tup bh0_w25, .str [102], .str [100], .tup bh0_w27], .str [103], .str [100], .tup [.tup bh0_w27, .str [103], .str [101], .tup bh0_w30]]
def bh0_w32 : List Dn.Dv := [.tup [.tup bh0_w26, .str [102], .str [98], .tup bh0_w28], .str [103], .str [98], .tup [.tup bh0_w28, .str [103], .str [99], .tup bh0_w31]]
def bh0_w33 : List Dn.Dv := [.tup [.tup [], .str [103], .str [103], .tup []], .str [104], .str [103], .tup [.tup [], .str [104], .str [104], .tup []]]
def bh0_w34 : List Dn.Dv := [.tup [.tup bh0_w27, .str [103], .str [101], .tup bh0_w30], .str [104], .str [101], .tup [.tup bh0_w30, .str [104], .str [102], .tup bh0_w33]]
def bh0_w35 : List Dn.Dv := [.tup [.tup bh0_w28, .str [103], .str [99], .tup bh0_w31], .str [104], .str [99], .tup [.tup bh0_w31, .str [104], .str [100], .tup bh0_w34]]
def bh0_w36 : List Dn.Dv := [.tup [.tup bh0_w29, .str [103], .str [97], .tup bh0_w32], .str [104], .str [97], .tup [.tup bh0_w32, .str [104], .str [98], .tup bh0_w35]]
def bh0_v0 : Dn.Dv := .str [97, 98, 99, 100, 101, 102, 103, 104, 97, 98, 99, 100, 101, 102, 103, 104, 97, 98, 99, 100, 101, 102, 103, 104]
theorem bh0_r32 (h : Hc) (hc : h.all (belowC h.length) = true) : callF fs gl 58 15 [bh0_v0] h = .ok (.tup bh0_w36) h := l_form_row HL 48 h (by kernel_rfl) (by kernel_rfl)
def bh0_f10 : Fm := .node (.node .nil 99 99 .nil) 100 99 (.node .nil 100 100 .nil)
def bh0_f11 : Fm := .node (.node (.node .nil 98 98 .nil) 99 98 (.node .nil 99 99 .nil)) 100 98 bh0_f10
def bh0_f12 : Fm := .node (.node .nil 100 100 .nil) 101 100 (.node .nil 101 101 .nil)
def bh0_f13 : Fm := .node (.node bh0_f3 100 97 bh0_f11) 101 97 (.node bh0_f11 101 98 (.node bh0_f10 101 99 bh0_f12))
def bh0_f14 : Fm := .node (.node .nil 101 101 .nil) 102 101 (.node .nil 102 102 .nil)
def bh0_f15 : Fm := .node (.node bh0_f10 101 99 bh0_f12) 102 99 (.node bh0_f12 102 100 bh0_f14)
def bh0_f16 : Fm := .node (.node bh0_f11 101 98 (.node bh0_f10 101 99 bh0_f12)) 102 98 bh0_f15
def bh0_f17 : Fm := .node (.node .nil 102 102 .nil) 103 102 (.node .nil 103 103 .nil)
def bh0_f18 : Fm := .node (.node bh0_f12 102 100 bh0_f14) 103 100 (.node bh0_f14 103 101 bh0_f17)
def bh0_f19 : Fm := .node (.node bh0_f13 102 97 bh0_f16) 103 97 (.node bh0_f16 103 98 (.node bh0_f15 103 99 bh0_f18))
def bh0_f20 : Fm := .node (.node .nil 103 103 .nil) 104 103 (.node .nil 104 104 .nil)
def bh0_f21 : Fm := .node (.node bh0_f14 103 101 bh0_f17) 104 101 (.node bh0_f17 104 102 bh0_f20)
def bh0_f22 : Fm := .node (.node bh0_f15 103 99 bh0_f18) 104 99 (.node bh0_f18 104 100 bh0_f21)
def bh0_f23 : Fm := .node (.node bh0_f16 103 98 (.node bh0_f15 103 99 bh0_f18)) 104 98 bh0_f22
theorem bh0_r33 (h : Hc) (hc : h.all (belowC h.length) = true) : callF fs gl 58 5 [.tup bh0_w36] h = .ok (.int 848812755986123142181819906824795802308973961670599743314002073182248665095184124441698689032838561368318476026) h := number_row HS h_number_of h_how_many_forms true 38 (f := (.node bh0_f19 104 97 bh0_f23)) h (by kernel_rfl) (by kernel_rfl) (by kernel_rfl)
theorem bh0_r34z : callF fs gl 58 4 [.int 8] [] = .ok (.int 848831867913830760986671126293000918118297635181600248810345894968376326537122752279277826211840000000000000000) [] := by kernel_rfl
theorem bh0_r34 (h : Hc) (hc : h.all (belowC h.length) = true) : callF fs gl 58 4 [.int 8] h = .ok (.int 848831867913830760986671126293000918118297635181600248810345894968376326537122752279277826211840000000000000000) h := pure_call bh0_pfs rfl rfl rfl bh0_r34z h
def bh0_t8 : List Row := [⟨5, [.tup [.tup bh0_w21, .str [97], .str [97], .tup bh0_w21]], .int 0⟩, ⟨5, [.tup [.tup bh0_w4, .str [99], .str [99], .tup bh0_w4]], .int 143⟩, ⟨15, [bh0_v0], .tup bh0_w36⟩, ⟨5, [.tup bh0_w36], .int 848812755986123142181819906824795802308973961670599743314002073182248665095184124441698689032838561368318476026⟩, ⟨4, [.int 8], .int 848831867913830760986671126293000918118297635181600248810345894968376326537122752279277826211840000000000000000⟩]
theorem bh0_q8 : Rows (callF fs gl 58) bh0_t8 := (.cons bh0_r30 (.cons bh0_r31 (.cons bh0_r32 (.cons bh0_r33 (.cons bh0_r34 .nil)))))
theorem bh0_s8 (ns : List Int) : ex (callF fs gl 58) gl (sHd bh0_b8) bh0_e8 [.scr ns, .lst bh0_w11, .lst bh0_w12] = .ok (.next bh0_e9) [.scr ns, .lst bh0_w11, .lst bh0_w12] := ex_tab bh0_q8 (by kernel_rfl)
theorem bh0_s9 (ns : List Int) : ex (callF fs gl 58) gl (sHd bh0_b9) bh0_e9 [.scr ns, .lst bh0_w11, .lst bh0_w12] = .ok (.ret (.bl true)) [.scr ns, .lst bh0_w11, .lst bh0_w12] := by kernel_rfl
theorem bh0_ok (ns : List Int) : callF fs gl 59 23 [] [.scr ns] = .ok (.bl true) [.scr ns] := by
  rw [callF_in (show fs[23]? = some f_23 from rfl) rfl]
  have e : exs (callF fs gl 58) gl bh0_b0 [none, none, none, none, none, none, none] [.scr ns] = .ok (.ret (.bl true)) [.scr ns, .lst bh0_w11, .lst bh0_w12] := by
    have z0 : bh0_b0 = .cons (sHd bh0_b0) bh0_b1 := by rfl
    rw [z0, exs_next (bh0_s0 ns)]
    have z1 : bh0_b1 = .cons (sHd bh0_b1) bh0_b2 := by rfl
    rw [z1, exs_next (bh0_s1 ns)]
    have z2 : bh0_b2 = .cons (sHd bh0_b2) bh0_b3 := by rfl
    rw [z2, exs_next (bh0_s2 ns)]
    have z3 : bh0_b3 = .cons (sHd bh0_b3) bh0_b4 := by rfl
    rw [z3, exs_next (bh0_s3 ns)]
    have z4 : bh0_b4 = .cons (sHd bh0_b4) bh0_b5 := by rfl
    rw [z4, exs_next (bh0_s4 ns)]
    have z5 : bh0_b5 = .cons (sHd bh0_b5) bh0_b6 := by rfl
    rw [z5, exs_next (bh0_s5 ns)]
    have z6 : bh0_b6 = .cons (sHd bh0_b6) bh0_b7 := by rfl
    rw [z6, exs_next (bh0_s6 ns)]
    have z7 : bh0_b7 = .cons (sHd bh0_b7) bh0_b8 := by rfl
    rw [z7, exs_next (bh0_s7 ns)]
    have z8 : bh0_b8 = .cons (sHd bh0_b8) bh0_b9 := by rfl
    rw [z8, exs_next (bh0_s8 ns)]
    have z9 : bh0_b9 = .cons (sHd bh0_b9) (sTl bh0_b9) := by rfl
    rw [z9, exs_ret (bh0_s9 ns)]
  show (exs (callF fs gl 58) gl bh0_b0 [none, none, none, none, none, none, none] [.scr ns]).bind _ = _
  rw [e]
  rfl
theorem law_true (ns : List Int) (hl : ns.length ≤ 63) (hb : ∀ k ∈ ns, Builtin.Int.intBits k ≤ 1048576) : ∃ h', callF (tab.map (·.fn)) (cons.map (·.2)) 60 25 [.loc 0] [.scr ns] = .ok (.bl true) h' :=
  law_ok (fs := fs) (gl := gl) (k := 58) (m := 3) (s0 := 23696) (bh := 23) (ce := 8) (ri := 24) (bo := 6) (by decide) (by decide) (by decide) rfl rfl rfl (fun ns => bh0_ok ns) right_ok hl
end Lw
open PySem PySem.W PySem.Calls PyProof.Rows
theorem PySem.Challenge.cw_donetwice_k21_numbers_of_forms_holds : PySem.Challenge.rw_donetwice_k21_numbers_of_forms.Holds := by
  w_on; o_law
  refine HandSHeadRun.head_any (r := OpenLaw.row PySem.Challenge.rw_donetwice_k21_numbers_of_forms) (q := view (OpenLaw.row PySem.Challenge.rw_donetwice_k21_numbers_of_forms).prog [32]) (H := Lw.hk) (ob := Lw.ob) (M := 4000) (loose := Lw.loose) (d := HandSHeadRun.topDef (OpenLaw.row PySem.Challenge.rw_donetwice_k21_numbers_of_forms).prog 32) (kwd := []) Lw.ob_eq
    (by kernel_rfl) (fun s => by kernel_rfl) Lw.run (by kernel_rfl) (by kernel_rfl) (by kernel_rfl) (by rfl) (by first | assumption | decide +kernel) (by decide +kernel) ⟨rfl, rfl, rfl, rfl, rfl, by decide +kernel⟩ ?hw ?hc
  case hw => w_witness2
  case hc =>
    exact Dn.walk_end (l := PySem.Challenge.rw_donetwice_k21_numbers_of_forms) (n := 63) (k := 60) (li := 25) (tl := Lw.t_25) (x := "_law_script") rfl (by decide) (by kernel_rfl) ⟨rfl, by decide, by decide⟩ Lw.tabOk rfl (by kernel_rfl) rfl Lw.bd_law Lw.law_true

